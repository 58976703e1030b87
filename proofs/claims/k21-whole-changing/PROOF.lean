import PyProof.Rows.All
import Wide.All
import OpenK.AllK
import Wide.FinOn
import HandS.ForMost
import HandS.ForExc
import HandS.Walk
import HandS.Zip
import HandS.Deep
import HandS.Style
import HandS.Wide
import HandS.IsInst
import HandS.TupAny
import HandS.TupMul
import HandS.Conv
import HandS.SetFor
import HandS.SetKeys
import HandS.Strs
import HandS.TupSets
import HandS.StrMore
import HandS.SortInts
import KE.SortData
import KE.GoesEnum
import KE.GoesNew
import KE.DataMinMax
import PyProof.Rows.RowBridgeK
import KE.KDictZip
import HandS.SetBool
import PyProof.FactsAll.set_2
import KE.DatumOrd
import PySem.Challenge.RW_quietbells_k21_whole_changing
set_option Elab.async false
set_option linter.all false
set_option maxRecDepth 100000
set_option maxHeartbeats 4000000
/-! ### a small language of data: its terms and their meaning -/
namespace QB
open PySem
inductive R (α : Type) where
  | ok (a : α) | exc (c : Str) | stuck
def R.bind {α β : Type} : R α → (α → R β) → R β
  | .ok a, f => f a
  | .exc c, _ => .exc c
  | .stuck, _ => .stuck
@[simp] theorem R.bind_ok {α β : Type} (a : α) (f : α → R β) : (R.ok a).bind f = f a := rfl
@[simp] theorem R.bind_exc {α β : Type} (c : Str) (f : α → R β) : (R.exc c : R α).bind f = .exc c := rfl
@[simp] theorem R.bind_stuck {α β : Type} (f : α → R β) : (R.stuck : R α).bind f = .stuck := rfl
/-- what cannot be left by an exception -/
def R.firm {α : Type} : R α → R α
  | .ok a => .ok a
  | _ => .stuck
def R.when {α : Type} (c : Bool) (r : R α) : R α := cond c r .stuck
@[simp] theorem R.when_true {α : Type} (r : R α) : R.when true r = r := rfl
@[simp] theorem R.when_false {α : Type} (r : R α) : R.when false r = .stuck := rfl
theorem R.when_of {α : Type} {c : Bool} (h : c = true) (r : R α) : R.when c r = r := by rw [h]; rfl
/-- a slot: nothing known, a datum, a list of this call's own that may still grow -/
inductive Sl where
  | no | da (d : PyData) | ow (ds : List PyData)
abbrev Env := List Sl
inductive Un where
  | neg | len | all | any | toInt | toStr | toList | toTuple | max1 | min1 | sum | srt | sset | lset | rev
  | isi (T : String)
  deriving DecidableEq
inductive Bi where
  | add | sub | mul | fdiv | mod | pow
  | eq | ne | lt | le | gt | ge | is | isnt | inn | nin
  | max2 | min2 | join | split | part | cnt | indx | idx | sfrom | sto | sdiff
  deriving DecidableEq
inductive Tg where
  | nm (i : Nat) | tp (ts : List Tg)
mutual
inductive P where
  | cst (d : PyData) | var (i : Nat) | glb (x : Str) (d : PyData)
  | un (u : Un) (a : P) | bi (b : Bi) (a c : P) | chn (o o' : Bi) (a b c : P) | repl (a b c : P)
  | nt (a : P) | an (a b : P) | oo (a b : P) | ite (c a b : P)
  | tup (as : Ps) | lst (as : Ps) | lstRng (it : It)
  | fn (x : Str) (m : List PyData → R PyData) (as : Ps)
  | comp (it : It) (tg : Tg) (elt : P) (own : List (Str × Nat))
  | compT (it : It) (tg : Tg) (test elt : P) (own : List (Str × Nat))
inductive Ps where
  | nil | cons (a : P) (as : Ps)
inductive It where
  | seq (a : P) | rng1 (a : P) | rng2 (a b : P) | zip2 (a b : P) | zip3 (a b c : P) | enm (a : P)
end
inductive S where
  | pass | own (i : Nat) (as : Ps) | ownA (i : Nat) (a b : P) | ownC (i : Nat) (p : P) | asg (tg : Tg) (p : P) | par (is : List Nat) (ps : Ps) | app (i : Nat) (p : P) | ext (i : Nat) (p : P)
  | evl (p : P) | iff (c : P) (a b : S) | forr (it : It) (tg : Tg) (b : S) | whl (fuel : Nat) (c : P) (b : S)
  | ret (p : P) | rai (x : Str) | frz (i : Nat) | seq (a b : S) | nil
/-! #### one and two data -/
def lim : Nat := 1000000
def sok (z : Str) : Bool := decide (z.length ≤ lim)
def lok {α : Type} (l : List α) : Bool := decide (l.length ≤ lim)
def asBools : List PyData → Option (List Bool)
  | [] => some []
  | .bool b :: r => (asBools r).map (b :: ·)
  | _ :: _ => none
def asInts : List PyData → Option (List Int)
  | [] => some []
  | .int b :: r => (asInts r).map (b :: ·)
  | _ :: _ => none
def asStrs : List PyData → Option (List Str)
  | [] => some []
  | .str b :: r => (asStrs r).map (b :: ·)
  | _ :: _ => none
def R.of {α β : Type} (o : Option α) (f : α → R β) : R β := match o with
  | some a => f a
  | none => .stuck
@[simp] theorem R.of_some {α β : Type} (a : α) (f : α → R β) : R.of (some a) f = f a := rfl
@[simp] theorem R.of_none {α β : Type} (f : α → R β) : R.of none f = .stuck := rfl
def tyName : PyData → String
  | .none => "NoneType" | .bool _ => "bool" | .int _ => "int" | .str _ => "str" | .list _ => "list" | .tuple _ => "tuple" | .dict _ => "dict"
def isiB (a T : String) : Bool := a == T || (a == "bool" && T == "int")
def isiT (T : String) : Bool := T == "int" || T == "bool" || T == "str" || T == "list" || T == "tuple"
def isiD (T : String) (d : PyData) : R PyData := R.when (isiT T && !(tyName d == "dict")) (.ok (.bool (isiB (tyName d) T)))
def allAlike (ds : List PyData) : Bool := ds.all fun d => ds.all fun d' => W.alike d d'
def sortable (ds : List PyData) : Bool := (ds.all fun d => match d with | .tuple (_ :: _) => true | _ => false) || (ds.all fun d => match d with | .none => false | .tuple _ => false | _ => true)
def depOk (d : PyData) : Bool := decide (d.depth ≤ 16)
def sortD (ds : List PyData) : List PyData := ds.mergeSort (W.dataLe false id)
def srtD (ds : List PyData) : R PyData := R.when (allAlike ds && sortable ds && lok ds && ds.all depOk) (.ok (.list (sortD ds)))
/-- what a set may hold here: ints; texts; few tuples of ints and texts -/
def keyOf : PyData → Option L2.Key
  | .int i => some (.inl i)
  | .str z => some (.inr z)
  | _ => none
def keysOf : List PyData → Option (List L2.Key)
  | [] => some []
  | d :: r => (keyOf d).bind fun k => (keysOf r).map (k :: ·)
def flatKeys (ds : List PyData) : Bool := (keysOf ds).isSome
def tupKeys (ds : List PyData) : Bool := decide (ds.length ≤ 4) && ds.all fun d => match d with | .tuple (x :: r) => (keysOf (x :: r)).isSome | _ => false
def dedup : List PyData → List PyData
  | [] => []
  | d :: r => d :: (dedup r).filter fun e => !PyData.eqv d e
def setOk (ds : List PyData) : Bool := decide (ds.length ≤ 2000) && ((asInts ds).isSome || (asStrs ds).isSome || tupKeys ds)
def seqOf : PyData → Option (List PyData)
  | .list ds => some ds
  | .tuple ds => some ds
  | .str z => some (z.cps.toList.map fun c => .str ⟨#[c]⟩)
  | _ => none
def setSrc : PyData → Option (List PyData)
  | .list ds => some ds
  | .str z => if z.length ≤ 2000 then some (z.cps.toList.map fun c => .str ⟨#[c]⟩) else none
  | _ => none
def maxI : List Int → Option Int
  | [] => none
  | a :: r => some (r.foldl (fun m x => if m < x then x else m) a)
def minI : List Int → Option Int
  | [] => none
  | a :: r => some (r.foldl (fun m x => if x < m then x else m) a)
def minD : List PyData → Option PyData
  | [] => none
  | a :: r => some (r.foldl (fun m x => if W.dataLt x m then x else m) a)
def un1 (u : Un) (d : PyData) : R PyData := match u, d with
  | .neg, .int i => .ok (.int (-i))
  | .len, .str z => R.when (sok z) (.ok (.int z.length))
  | .len, .list ds => .ok (.int ds.length)
  | .len, .tuple ds => .ok (.int ds.length)
  | .all, .list ds => R.of (asBools ds) fun bs => .ok (.bool (bs.all id))
  | .any, .list ds => R.of (asBools ds) fun bs => .ok (.bool (bs.any id))
  | .toInt, .str z => R.when (decide (z.length ≤ 640)) (R.of (PySem.intText? z) fun n => .ok (.int n))
  | .toStr, .int i => R.when (decide (i.natAbs < 2 ^ 64)) (.ok (.str (toString i)))
  | .toList, .list ds => .ok (.list ds)
  | .toList, .tuple ds => .ok (.list ds)
  | .toTuple, .list ds => .ok (.tuple ds)
  | .toTuple, .tuple ds => .ok (.tuple ds)
  | .max1, .list ds => R.of (asInts ds) fun ns => R.of (maxI ns) fun m => .ok (.int m)
  | .min1, .list ds => match asInts ds with
    | some ns => R.of (minI ns) fun m => .ok (.int m)
    | none => R.when (allAlike ds && sortable ds && decide (PyData.depthAll ds ≤ 16)) (R.of (minD ds) fun m => .ok m)
  | .sum, .list ds => R.of (asInts ds) fun ns => .ok (.int ns.sum)
  | .srt, .list ds => srtD ds
  | .sset, d => R.of (setSrc d) fun ds => R.when (setOk ds) (srtD (dedup ds))
  | .lset, d => R.of (setSrc d) fun ds => R.when (setOk ds || (asBools ds).isSome && decide (ds.length ≤ 2000)) (.ok (.int (dedup ds).length))
  | .rev, .list ds => .ok (.list ds.reverse)
  | .rev, .tuple ds => .ok (.tuple ds.reverse)
  | .isi T, d => isiD T d
  | _, _ => .stuck
def signs1 (z : Str) : List PyData := z.cps.toList.map fun c => .str ⟨#[c]⟩
/-- sorted(set(a) - set(b)), a of six signs -/
def sdifD (a b : Str) : R PyData := R.when (decide (b.length ≤ 2000) && decide ((dedup (signs1 a)).length = 6)) (srtD ((dedup (signs1 a)).filter fun x => !(signs1 b).any fun y => PyData.eqv y x))
def i64 (i : Int) : Bool := decide (-(2 ^ 64) < i ∧ i < 2 ^ 64)
def strIn (x z : Str) : Bool := !(Builtin.Str.occurrences z x 0 z.length 1).isEmpty
def inD (x : PyData) (ds : List PyData) : Bool := ds.any fun d => PyData.eqv d x
def sixN (n : Nat) (i : Int) : Nat := if i < 0 then (n + i).toNat else min i.toNat n
def bi2 (b : Bi) (x y : PyData) : R PyData := match b, x, y with
  | .add, .int i, .int j => .ok (.int (i + j))
  | .add, .str a, .str c => R.when (decide (a.length + c.length ≤ lim)) (.ok (.str (a ++ c)))
  | .add, .list a, .list c => R.when (decide (a.length + c.length ≤ lim)) (.ok (.list (a ++ c)))
  | .add, .tuple a, .tuple c => R.when (decide (a.length + c.length ≤ lim)) (.ok (.tuple (a ++ c)))
  | .sub, .int i, .int j => .ok (.int (i - j))
  | .mul, .int i, .int j => R.when (i64 i || i64 j) (.ok (.int (i * j)))
  | .mul, .list a, .int k => R.when (decide (0 ≤ k ∧ k ≤ 1000 ∧ a.length ≤ 1000)) (.ok (.list (List.replicate k.toNat a).flatten))
  | .mul, .tuple a, .int k => R.when (decide (2 ≤ k ∧ k ≤ 1000 ∧ 1 ≤ a.length ∧ a.length ≤ 1000)) (.ok (.tuple (List.replicate k.toNat a).flatten))
  | .fdiv, .int i, .int j => R.when (decide (0 < j ∧ j < 2 ^ 64)) (.ok (.int (i / j)))
  | .mod, .int i, .int j => R.when (decide (0 < j)) (.ok (.int (i % j)))
  | .pow, .int i, .int j => R.when (decide (0 ≤ j ∧ j ≤ 1000 ∧ i.natAbs < 2 ^ 64)) (.ok (.int (i ^ j.toNat)))
  | .eq, d, e => R.when (depOk d || depOk e) (.ok (.bool (PyData.eqv d e)))
  | .ne, d, e => R.when (depOk d || depOk e) (.ok (.bool (!PyData.eqv d e)))
  | .lt, .int i, .int j => .ok (.bool (decide (i < j)))
  | .lt, d, e => R.when (W.alike d e && depOk d && depOk e && (match d with | .none => false | _ => true)) (.ok (.bool (W.dataLt d e)))
  | .le, .int i, .int j => .ok (.bool (decide (i ≤ j)))
  | .gt, .int i, .int j => .ok (.bool (decide (j < i)))
  | .ge, .int i, .int j => .ok (.bool (decide (j ≤ i)))
  | .is, .bool a, .bool c => .ok (.bool (decide (a = c)))
  | .is, d, .none => .ok (.bool (match d with | .none => true | _ => false))
  | .isnt, .bool a, .bool c => .ok (.bool (!decide (a = c)))
  | .isnt, d, .none => .ok (.bool (match d with | .none => false | _ => true))
  | .inn, .str a, .str c => .ok (.bool (strIn a c))
  | .inn, d, .list ds => R.when (depOk d) (.ok (.bool (inD d ds)))
  | .inn, d, .tuple ds => R.when (depOk d) (.ok (.bool (inD d ds)))
  | .nin, .str a, .str c => .ok (.bool (!strIn a c))
  | .nin, d, .list ds => R.when (depOk d) (.ok (.bool (!inD d ds)))
  | .nin, d, .tuple ds => R.when (depOk d) (.ok (.bool (!inD d ds)))
  | .max2, .int i, .int j => .ok (.int (if j > i then j else i))
  | .min2, .int i, .int j => .ok (.int (if j < i then j else i))
  | .join, .str a, .list ds => R.of (asStrs ds) fun ys => R.when (decide ((ys.map (·.length)).sum + ys.length * a.length ≤ lim)) (.ok (.str (PySem.Txt.join a ys)))
  | .split, .str a, .str c => R.when (!(c.length == 0) && decide (a.length + 2 ≤ lim)) (.ok (.list ((PySem.Txt.split a c).map .str)))
  | .part, .str a, .str c => R.when (!(c.length == 0) && decide (a.length ≤ lim)) (.ok (.tuple [.str (PySem.Txt.partition a c).1, .str (PySem.Txt.partition a c).2.1, .str (PySem.Txt.partition a c).2.2]))
  | .cnt, .str a, .str c => .ok (.int (PySem.Txt.count a c))
  | .cnt, .list ds, d => R.when (depOk d) (.ok (.int ((ds.filter fun e => PyData.eqv e d).length)))
  | .indx, .list ds, d => R.when (depOk d) (R.of (ds.findIdx? fun e => PyData.eqv e d) fun j => .ok (.int j))
  | .indx, .tuple ds, d => R.when (depOk d) (R.of (ds.findIdx? fun e => PyData.eqv e d) fun j => .ok (.int j))
  | .idx, .list ds, .int i => R.of (L2.atI ds i) fun d => .ok d
  | .idx, .tuple ds, .int i => R.of (L2.atI ds i) fun d => .ok d
  | .idx, .str z, .int i => R.when (sok z) (R.of (L2.atI z.cps.toList i) fun c => .ok (.str ⟨#[c]⟩))
  | .sfrom, .list ds, .int i => .ok (.list (ds.drop (sixN ds.length i)))
  | .sfrom, .tuple ds, .int i => .ok (.tuple (ds.drop (sixN ds.length i)))
  | .sfrom, .str z, .int i => R.when (sok z) (.ok (.str ⟨(z.cps.toList.drop (sixN z.length i)).toArray⟩))
  | .sto, .list ds, .int i => .ok (.list (ds.take (sixN ds.length i)))
  | .sto, .tuple ds, .int i => .ok (.tuple (ds.take (sixN ds.length i)))
  | .sto, .str z, .int i => R.when (sok z) (.ok (.str ⟨(z.cps.toList.take (sixN z.length i)).toArray⟩))
  | .sdiff, .str a, .str c => sdifD a c
  | _, _, _ => .stuck
/-- what a method's receiver must be, ahead of the arguments -/
def rcv (b : Bi) (d : PyData) : Bool := match b, d with
  | .join, .str _ => true
  | .join, _ => false
  | .split, .str _ => true
  | .split, _ => false
  | .part, .str _ => true
  | .part, _ => false
  | .cnt, .str _ => true
  | .cnt, .list _ => true
  | .cnt, _ => false
  | .indx, .list _ => true
  | .indx, .tuple _ => true
  | .indx, _ => false
  | .sdiff, .str z => decide (z.length ≤ 2000)
  | .sdiff, _ => false
  | _, _ => true
def rep3 : PyData → PyData → PyData → R PyData
  | .str a, .str b, .str c => R.when (decide (a.length ≤ 1000 ∧ b.length = 1 ∧ c.length = 0) && PySem.PyData.strOk (PySem.Txt.replace a b c)) (.ok (.str (PySem.Txt.replace a b c)))
  | _, _, _ => .stuck
/-! #### slots -/
def Sl.get : Option Sl → R PyData
  | some (.da d) => .ok d
  | _ => .stuck
def asgT : Tg → PyData → Env → R Env
  | .nm i, d, ρ => .ok (ρ.set i (.da d))
  | .tp ts, .tuple ds, ρ => asgTs ts ds ρ
  | .tp _, _, _ => .stuck
where asgTs : List Tg → List PyData → Env → R Env
  | [], [], ρ => .ok ρ
  | t :: ts, d :: ds, ρ => (asgT t d ρ).bind fun ρ' => asgTs ts ds ρ'
  | _, _, _ => .stuck
def frzS (ρ : Env) (i : Nat) : Env := match ρ[i]? with
  | some (.ow ds) => ρ.set i (.da (.list ds))
  | _ => ρ
def wipeS (ρ : Env) : List Nat → Env
  | [] => ρ
  | v :: vs => (wipeS ρ vs).set v .no
def setAll : List Nat → List Sl → Env → R Env
  | i :: is, d :: ds, ρ => setAll is ds (ρ.set i d)
  | [], [], ρ => .ok ρ
  | _, _, _ => .stuck
/-! #### terms -/
def compL (f : PyData → R (Option PyData)) : List PyData → R (List PyData)
  | [] => .ok []
  | d :: ds => (f d).bind fun o => (compL f ds).bind fun r => .ok (match o with | some x => x :: r | none => r)
def boolR (r : R PyData) : R Bool := r.bind fun d => match d with
  | .bool b => .ok b
  | _ => .stuck
def rngI (i j : Int) : R (List PyData) := R.when (decide (-1000000000 ≤ i ∧ j - i ≤ 1000000 ∧ i ≤ 1000000000 ∧ -1000000000 ≤ j)) (.ok ((List.range (j - i).toNat).map fun k => .int (i + (k : Nat))))
mutual
def ev : P → Env → R PyData
  | .cst d, _ => .ok d
  | .var i, ρ => Sl.get ρ[i]?
  | .glb _ d, _ => .ok d
  | .un u a, ρ => (ev a ρ).bind fun d => un1 u d
  | .bi b a c, ρ => (ev a ρ).bind fun d => R.when (rcv b d) ((ev c ρ).bind fun e => bi2 b d e)
  | .chn o o' a b c, ρ => (ev a ρ).bind fun d => (ev b ρ).bind fun e => (boolR (bi2 o d e)).bind fun k => cond k ((ev c ρ).bind fun f => bi2 o' e f) (.ok (.bool false))
  | .repl a b c, ρ => (ev a ρ).bind fun d => (ev b ρ).bind fun e => (ev c ρ).bind fun f => rep3 d e f
  | .nt a, ρ => (boolR (ev a ρ)).bind fun k => .ok (.bool (!k))
  | .an a b, ρ => (boolR (ev a ρ)).bind fun k => cond k (ev b ρ) (.ok (.bool false))
  | .oo a b, ρ => (boolR (ev a ρ)).bind fun k => cond k (.ok (.bool true)) (ev b ρ)
  | .ite c a b, ρ => (boolR (ev c ρ)).bind fun k => cond k (ev a ρ) (ev b ρ)
  | .tup as, ρ => (evs as ρ).bind fun ds => .ok (.tuple ds)
  | .lst as, ρ => (evs as ρ).bind fun ds => .ok (.list ds)
  | .lstRng it, ρ => (evI it ρ).bind fun ds => .ok (.list ds)
  | .fn _ m as, ρ => (evs as ρ).bind fun ds => m ds
  | .comp it tg elt own, ρ => (evI it ρ).bind fun ds => R.when (lok ds)
      ((compL (fun d => (asgT tg d (wipeS ρ (own.map (·.2)))).bind fun ρ1 => (ev elt ρ1).bind fun x => .ok (some x)) ds).firm.bind fun r => .ok (.list r))
  | .compT it tg t elt own, ρ => (evI it ρ).bind fun ds => R.when (lok ds)
      ((compL (fun d => (asgT tg d (wipeS ρ (own.map (·.2)))).bind fun ρ1 => (boolR (ev t ρ1)).bind fun k => cond k ((ev elt ρ1).bind fun x => .ok (some x)) (.ok none)) ds).firm.bind fun r => .ok (.list r))
def evs : Ps → Env → R (List PyData)
  | .nil, _ => .ok []
  | .cons a as, ρ => (ev a ρ).bind fun d => (evs as ρ).bind fun ds => .ok (d :: ds)
def evI : It → Env → R (List PyData)
  | .seq a, ρ => (ev a ρ).bind fun d => R.of (seqOf d) fun ds => .ok ds
  | .rng1 a, ρ => (ev a ρ).bind fun d => match d with
    | .int j => rngI 0 j
    | _ => .stuck
  | .rng2 a b, ρ => (ev a ρ).bind fun d => (ev b ρ).bind fun e => match d, e with
    | .int i, .int j => rngI i j
    | _, _ => .stuck
  | .zip2 a b, ρ => (ev a ρ).bind fun d => (ev b ρ).bind fun e => R.of (seqOf d) fun ds => R.of (seqOf e) fun es => .ok (List.zipWith (fun x y => .tuple [x, y]) ds es)
  | .zip3 a b c, ρ => (ev a ρ).bind fun d => (ev b ρ).bind fun e => (ev c ρ).bind fun f => R.of (seqOf d) fun ds => R.of (seqOf e) fun es => R.of (seqOf f) fun fs =>
      R.when (decide (1 ≤ ds.length ∧ ds.length = es.length ∧ ds.length = fs.length ∧ ds.length ≤ 1000)) (.ok (List.zipWith (fun x (p : PyData × PyData) => .tuple [x, p.1, p.2]) ds (es.zip fs)))
  | .enm a, ρ => (ev a ρ).bind fun d => R.of (seqOf d) fun ds => .ok (List.zipWith (fun i x => .tuple [.int ((i : Nat) : Int), x]) (List.range ds.length) ds)
end
/-! #### statements -/
/-- the right side of an assignment: a list display is the call's own -/
def ev1 : P → Env → R Sl
  | .lst as, ρ => (evs as ρ).bind fun ds => .ok (.ow ds)
  | p, ρ => (ev p ρ).bind fun d => .ok (.da d)
def evP : Ps → Env → R (List Sl)
  | .nil, _ => .ok []
  | .cons a as, ρ => (ev1 a ρ).bind fun d => (evP as ρ).bind fun ds => .ok (d :: ds)
inductive Out where
  | nx (ρ : Env) | rt (d : PyData)
def R.next (r : R Out) (k : Env → R Out) : R Out := match r with
  | .ok (.nx ρ) => k ρ
  | r => r
@[simp] theorem R.next_nx (ρ : Env) (k : Env → R Out) : (R.ok (.nx ρ)).next k = k ρ := rfl
@[simp] theorem R.next_rt (d : PyData) (k : Env → R Out) : (R.ok (.rt d)).next k = .ok (.rt d) := rfl
@[simp] theorem R.next_exc (c : Str) (k : Env → R Out) : (R.exc c).next k = .exc c := rfl
@[simp] theorem R.next_stuck (k : Env → R Out) : (R.stuck : R Out).next k = .stuck := rfl
def loopF (b : PyData → Env → R Out) : List PyData → Env → R Out
  | [], ρ => .ok (.nx ρ)
  | d :: ds, ρ => (b d ρ).next fun ρ' => loopF b ds ρ'
def loopW (c : Env → R Bool) (b : Env → R Out) : Nat → Env → R Out
  | 0, _ => .stuck
  | n + 1, ρ => (c ρ).bind fun k => cond k ((b ρ).next fun ρ' => loopW c b n ρ') (.ok (.nx ρ))
def ownGet : Option Sl → Option (List PyData)
  | some (.ow ds) => some ds
  | _ => none
def ex : S → Env → R Out
  | .pass, ρ => .ok (.nx ρ)
  | .nil, ρ => .ok (.nx ρ)
  | .own i as, ρ => (evs as ρ).bind fun ds => .ok (.nx (ρ.set i (.ow ds)))
  | .ownA i a b, ρ => (ev a ρ).bind fun d => (ev b ρ).bind fun e => match d, e with
    | .list ds, .list es => R.when (decide (ds.length + es.length ≤ lim)) (.ok (.nx (ρ.set i (.ow (ds ++ es)))))
    | _, _ => .stuck
  | .ownC i p, ρ => (ev p ρ).bind fun d => match d with
    | .list ds => .ok (.nx (ρ.set i (.ow ds)))
    | _ => .stuck
  | .asg tg p, ρ => (ev p ρ).bind fun d => (asgT tg d ρ).bind fun ρ' => .ok (.nx ρ')
  | .par is ps, ρ => (evP ps ρ).bind fun ds => (setAll is ds ρ).bind fun ρ' => .ok (.nx ρ')
  | .app i p, ρ => R.of (ownGet ρ[i]?) fun ds => (ev p ρ).bind fun d => R.when (lok ds) (.ok (.nx (ρ.set i (.ow (ds ++ [d])))))
  | .ext i p, ρ => R.of (ownGet ρ[i]?) fun ds => (ev p ρ).bind fun d => match d with
    | .list es => R.when (decide (ds.length + es.length ≤ lim)) (.ok (.nx (ρ.set i (.ow (ds ++ es)))))
    | _ => .stuck
  | .evl p, ρ => (ev p ρ).bind fun _ => .ok (.nx ρ)
  | .iff c a b, ρ => (boolR (ev c ρ)).bind fun k => cond k (ex a ρ) (ex b ρ)
  | .forr it tg b, ρ => (evI it ρ).bind fun ds => loopF (fun d ρ => (asgT tg d ρ).bind fun ρ' => ex b ρ') ds ρ
  | .whl n c b, ρ => loopW (fun ρ => boolR (ev c ρ)) (fun ρ => ex b ρ) n ρ
  | .ret p, ρ => (ev p ρ).bind fun d => .ok (.rt d)
  | .rai x, _ => .exc x
  | .frz i, ρ => .ok (.nx (frzS ρ i))
  | .seq a b, ρ => (ex a ρ).next fun ρ' => ex b ρ'
/-- a def: n parameters, N slots -/
def run (n N : Nat) (b : S) (ds : List PyData) : R PyData := R.when (decide (ds.length = n)) (match ex b (ds.map .da ++ List.replicate (N - n) .no) with
  | .ok (.nx _) => .ok .none
  | .ok (.rt d) => .ok d
  | .exc c => .exc c
  | .stuck => .stuck)
end QB
/-! ### data in the heap -/
namespace QB
open PySem L2
/-- the still part Hs of the heap H grows, what is beside it (the call's own lists) does not come in -/
structure Ext (Hs H Hs' H' : Hp) : Prop where
  s : Same Hs Hs'
  h : Same H H'
  sub : Same Hs' H'
  new : ∀ a, H a ≠ none → Hs a = none → Hs' a = none
theorem Ext.refl {Hs H : Hp} (e : Same Hs H) : Ext Hs H Hs H := ⟨Same.refl _, Same.refl _, e, fun _ _ h => h⟩
theorem Ext.trans {A B A' B' A2 B2 : Hp} (e : Ext A B A' B') (f : Ext A' B' A2 B2) : Ext A B A2 B2 :=
  ⟨e.s.trans f.s, e.h.trans f.h, f.sub, fun a h1 h2 => f.new a (fun z => h1 (e.h.free z)) (e.new a h1 h2)⟩
theorem same_new {H : Hp} {p : Addr} {o : HO} (h : H p = none) : Same H (upd H p o) := fun b x e => by
  rw [upd_ne (ne_of_none e h)]; exact e
theorem same_upd2 {A B : Hp} {p : Addr} {o : HO} (e : Same A B) : Same (upd A p o) (upd B p o) := fun b x h => by
  by_cases hb : b = p
  · subst hb; rw [upd_same] at h ⊢; exact h
  · rw [upd_ne hb] at h ⊢; exact e b x h
theorem Ext.laid {Hs H : Hp} {p : Addr} {o : HO} (e : Same Hs H) (h : H p = none) : Ext Hs H (upd Hs p o) (upd H p o) :=
  ⟨same_new (e.free h), same_new h, same_upd2 e, fun a h1 h2 => by
    have : a ≠ p := fun z => h1 (by rw [z]; exact h)
    rw [upd_ne this]; exact h2⟩
/-- laid beside the still part -/
theorem Ext.aside {Hs H : Hp} {p : Addr} {o : HO} (e : Same Hs H) (h : H p = none) : Ext Hs H Hs (upd H p o) :=
  ⟨Same.refl _, same_new h, e.trans (same_new h), fun _ _ h2 => h2⟩
mutual
/-- the value v reads as the datum d: lists and tuples that are tracked -/
inductive Dd (H : Hp) : V → PyData → Prop
  | non : Dd H .non .none
  | bl (b : Bool) : Dd H (.bl b) (.bool b)
  | int (i : Int) : Dd H (.int i) (.int i)
  | str (x : Str) (h : PyData.strOk x = true) : Dd H (.str x) (.str x)
  | lst {a : Addr} {xs : List V} {ds : List PyData} : Rd H a (.lst xs) → DdAll H xs ds → Dd H (.ref a) (.list ds)
  | tup {a : Addr} {xs : List V} {ds : List PyData} : Rd H a (.tup xs) → DdAll H xs ds → Dd H (.ref a) (.tuple ds)
inductive DdAll (H : Hp) : List V → List PyData → Prop
  | nil : DdAll H [] []
  | cons {v : V} {vs : List V} {d : PyData} {ds : List PyData} : Dd H v d → DdAll H vs ds → DdAll H (v :: vs) (d :: ds)
end
theorem rdS {H H' : Hp} {a : Addr} {u : HO} (e : Same H H') (h : Rd H a u) : Rd H' a u := by
  rcases h with h | ⟨o, h⟩
  · exact .inl (e _ _ h)
  · exact .inr ⟨o, e _ _ h⟩
mutual
theorem ddDp {K : W.Frag} {H : Hp} : ∀ (d : PyData) {v : V}, Dd H v d → Dp K H v d
  | .none, _, h => by cases h; exact .non
  | .bool b, _, h => by cases h; exact .bl b
  | .int i, _, h => by cases h; exact .int i
  | .str x, _, h => by cases h; exact .str x
  | .list ds, _, h => by
    cases h with
    | lst hs ha => exact .lst (.inl hs) (ddDpAll ds ha)
  | .tuple ds, _, h => by
    cases h with
    | tup hs ha => exact .tup (.inl hs) (ddDpAll ds ha)
  | .dict _, _, h => by cases h
theorem ddDpAll {K : W.Frag} {H : Hp} : ∀ (ds : List PyData) {vs : List V}, DdAll H vs ds → DpAll K H vs ds
  | [], _, h => by cases h; exact .nil
  | d :: ds, _, h => by
    cases h with
    | cons h1 h2 => exact .cons (ddDp d h1) (ddDpAll ds h2)
end
mutual
theorem dpMono {H H' : Hp} (e : Same H H') : ∀ (d : PyData) {v : V}, Dd H v d → Dd H' v d
  | .none, _, h => by cases h; exact .non
  | .bool b, _, h => by cases h; exact .bl b
  | .int i, _, h => by cases h; exact .int i
  | .str x, _, h => by cases h with | str _ z => exact .str x z
  | .list ds, _, h => by
    cases h with
    | lst hs ha => exact .lst (rdS e hs) (dpaMono e ds ha)
  | .tuple ds, _, h => by
    cases h with
    | tup hs ha => exact .tup (rdS e hs) (dpaMono e ds ha)
  | .dict _, _, h => by cases h
theorem dpaMono {H H' : Hp} (e : Same H H') : ∀ (ds : List PyData) {vs : List V}, DdAll H vs ds → DdAll H' vs ds
  | [], _, h => by cases h; exact .nil
  | d :: ds, _, h => by
    cases h with
    | cons h1 h2 => exact .cons (dpMono e d h1) (dpaMono e ds h2)
end
theorem dpaLen {H : Hp} : ∀ {vs : List V} {ds : List PyData}, DdAll H vs ds → vs.length = ds.length
  | _, [], h => by cases h; rfl
  | _, d :: ds, h => by
    cases h with
    | cons h1 h2 => simp [dpaLen h2]
theorem dpaGet {H : Hp} : ∀ {vs : List V} {ds : List PyData} {i : Nat} {d : PyData}, DdAll H vs ds → ds[i]? = some d → ∃ v, vs[i]? = some v ∧ Dd H v d
  | _, [], _, _, h, e => by simp at e
  | _, x :: ds, 0, d, h, e => by
    cases h with
    | cons h1 h2 => simp at e; subst e; exact ⟨_, rfl, h1⟩
  | _, x :: ds, i + 1, d, h, e => by
    cases h with
    | cons h1 h2 =>
      obtain ⟨v, q1, q2⟩ := dpaGet (i := i) h2 (by simpa using e)
      exact ⟨v, by simpa using q1, q2⟩
theorem dpaGetV {H : Hp} {vs : List V} {ds : List PyData} {i : Nat} {v : V} (h : DdAll H vs ds) (e : vs[i]? = some v) : ∃ d, ds[i]? = some d ∧ Dd H v d := by
  have hi : i < ds.length := by rw [← dpaLen h]; exact (List.getElem?_eq_some_iff.mp e).1
  obtain ⟨w, h1, h2⟩ := dpaGet h (List.getElem?_eq_getElem hi)
  rw [e] at h1; cases h1
  exact ⟨_, List.getElem?_eq_getElem hi, h2⟩
theorem dpaApp {H : Hp} : ∀ {vs ws : List V} {ds es : List PyData}, DdAll H vs ds → DdAll H ws es → DdAll H (vs ++ ws) (ds ++ es)
  | _, _, [], _, h, k => by cases h; exact k
  | _, _, d :: ds, _, h, k => by
    cases h with
    | cons h1 h2 => exact .cons h1 (dpaApp h2 k)
theorem dpaDrop {H : Hp} : ∀ (n : Nat) {vs : List V} {ds : List PyData}, DdAll H vs ds → DdAll H (vs.drop n) (ds.drop n)
  | 0, _, _, h => h
  | n + 1, _, [], h => by cases h; exact .nil
  | n + 1, _, d :: ds, h => by
    cases h with
    | cons h1 h2 => exact dpaDrop n h2
theorem dpaTake {H : Hp} : ∀ (n : Nat) {vs : List V} {ds : List PyData}, DdAll H vs ds → DdAll H (vs.take n) (ds.take n)
  | 0, _, _, h => by simp; exact .nil
  | n + 1, _, [], h => by cases h; exact .nil
  | n + 1, _, d :: ds, h => by
    cases h with
    | cons h1 h2 => exact .cons h1 (dpaTake n h2)
theorem dpaRev {H : Hp} : ∀ {vs : List V} {ds : List PyData}, DdAll H vs ds → DdAll H vs.reverse ds.reverse
  | _, [], h => by cases h; exact .nil
  | _, d :: ds, h => by
    cases h with
    | cons h1 h2 => rw [List.reverse_cons, List.reverse_cons]; exact dpaApp (dpaRev h2) (.cons h1 .nil)
mutual
theorem ddLay {H : Hp} : ∀ (d : PyData) {v : V}, Dd H v d → d.canLay0 = true
  | .none, _, h => rfl
  | .bool b, _, h => rfl
  | .int i, _, h => rfl
  | .str x, _, h => by cases h with | str _ z => exact z
  | .list ds, _, h => by
    cases h with
    | lst hs ha => exact ddLayAll ds ha
  | .tuple ds, _, h => by
    cases h with
    | tup hs ha => exact ddLayAll ds ha
  | .dict _, _, h => by cases h
theorem ddLayAll {H : Hp} : ∀ (ds : List PyData) {vs : List V}, DdAll H vs ds → PyData.canLayAll0 ds = true
  | [], _, h => rfl
  | d :: ds, _, h => by
    cases h with
    | cons h1 h2 => rw [PyData.canLayAll0, Bool.and_eq_true]; exact ⟨ddLay d h1, ddLayAll ds h2⟩
end
/-! #### what is wanted behind a result -/
def PostG {α β : Type} (E : Str → Hp → Prop) (Hs H : Hp) (r : R α) (ok : α → β → Hp → Prop) (Q : β → Hp → Prop) : Prop := match r with
  | .ok a => ∀ b Hs' H', Ext Hs H Hs' H' → ok a b Hs' → Q b H'
  | .exc c => ∀ Hs' H', Ext Hs H Hs' H' → E c H'
  | .stuck => False
section
variable {α β γ δ : Type} {E : Str → Hp → Prop} {Hs H Hs1 H1 : Hp} {r : R α} {ok : α → β → Hp → Prop} {Q : β → Hp → Prop}
theorem PostG.mono (h : PostG E Hs H r ok Q) (e : Ext Hs H Hs1 H1) : PostG E Hs1 H1 r ok Q := by
  cases r with
  | ok a => exact fun b Hs' H' f o => h b Hs' H' (e.trans f) o
  | exc c => exact fun Hs' H' f => h Hs' H' (e.trans f)
  | stuck => exact h
theorem PostG.seq {g : α → R γ} {ok' : γ → δ → Hp → Prop} {Q' : δ → Hp → Prop} (h : PostG E Hs H (r.bind g) ok' Q')
    (k : ∀ a b Hs1 H1, r = .ok a → Ext Hs H Hs1 H1 → ok a b Hs1 → PostG E Hs1 H1 (g a) ok' Q' → Q b H1) : PostG E Hs H r ok Q := by
  cases r with
  | ok a => exact fun b Hs1 H1 e o => k a b Hs1 H1 rfl e o (PostG.mono (r := g a) h e)
  | exc c => exact h
  | stuck => exact h
theorem PostG.imp {Q' : β → Hp → Prop} (h : PostG E Hs H r ok Q) (k : ∀ a b Hs1 H1, r = .ok a → Ext Hs H Hs1 H1 → ok a b Hs1 → Q b H1 → Q' b H1) : PostG E Hs H r ok Q' := by
  cases r with
  | ok a => exact fun b Hs1 H1 e o => k a b Hs1 H1 rfl e o (h b Hs1 H1 e o)
  | exc c => exact h
  | stuck => exact h
theorem PostG.of {ok' : γ → β → Hp → Prop} {o : Option α} {f : α → R γ} (h : PostG E Hs H (R.of o f) ok' Q) : ∃ a, o = some a ∧ PostG E Hs H (f a) ok' Q := by
  cases o with
  | none => exact h.elim
  | some a => exact ⟨a, rfl, h⟩
theorem PostG.when {c : Bool} (h : PostG E Hs H (R.when c r) ok Q) : c = true ∧ PostG E Hs H r ok Q := by
  cases c with
  | false => exact h.elim
  | true => exact ⟨rfl, h⟩
end
abbrev okD : PyData → V → Hp → Prop := fun d v Hs => Dd Hs v d
abbrev okB : Bool → Bool → Hp → Prop := fun a b _ => b = a
abbrev okA : List PyData → List V → Hp → Prop := fun ds vs Hs => DdAll Hs vs ds
/-- the slots that a term reads -/
structure Rel0 (ρ : Env) (σ : St) (Hs H : Hp) : Prop where
  sub : Same Hs H
  len : σ.length = ρ.length
  slot : ∀ (i : Nat) d, ρ[i]? = some (.da d) → ∃ v, σ[i]? = some (some v) ∧ Dd Hs v d
theorem Rel0.ext {ρ : Env} {σ : St} {Hs H Hs' H' : Hp} (r : Rel0 ρ σ Hs H) (e : Ext Hs H Hs' H') : Rel0 ρ σ Hs' H' :=
  ⟨e.sub, r.len, fun i d h => let ⟨v, h1, h2⟩ := r.slot i d h; ⟨v, h1, dpMono e.s d h2⟩⟩
abbrev Exc (X : Cx) (W : WX) (σ : St) : Str → Hp → Prop := fun c H' => ∀ C, X.mg c = some (.ref C) → W (.ref C) none σ H'
def DE (X : Cx) (W : WX) (e : Expr) (m : Env → R PyData) : Prop := ∃ t, PE X e t ∧ ∀ ρ σ Hs H Q, Rel0 ρ σ Hs H → PostG (Exc X W σ) Hs H (m ρ) okD Q → t σ H Q
def DT (X : Cx) (W : WX) (e : Expr) (m : Env → R Bool) : Prop := ∃ t, PT X e t ∧ ∀ ρ σ Hs H Q, Rel0 ρ σ Hs H → PostG (Exc X W σ) Hs H (m ρ) okB Q → t σ H Q
def DA (X : Cx) (W : WX) (es : List Expr) (m : Env → R (List PyData)) : Prop := ∃ t, PA X es t ∧ ∀ ρ σ Hs H Q, Rel0 ρ σ Hs H → PostG (Exc X W σ) Hs H (m ρ) okA Q → t σ H Q
/-! #### rules by data -/
/-- a two-place operation -/
def rD (X : Cx) (f : PyData → PyData → R PyData) : R2 := fun x y H Q => ∃ Hs d e, Same Hs H ∧ Dd Hs x d ∧ Dd Hs y e ∧ PostG (fun _ _ => False) Hs H (f d e) okD Q
/-- a call of a built-in -/
def rCD (X : Cx) (f : List PyData → R PyData) : List V → Hp → VK → Prop := fun vs H Q => ∃ Hs ds, Same Hs H ∧ DdAll Hs vs ds ∧ PostG (fun _ _ => False) Hs H (f ds) okD Q
theorem PostG.firm {α β : Type} {E E' : Str → Hp → Prop} {Hs H : Hp} {r : R α} {ok : α → β → Hp → Prop} {Q : β → Hp → Prop} (h : PostG E Hs H r ok Q) (n : ∀ c, r ≠ .exc c) : PostG E' Hs H r ok Q := by
  cases r with
  | ok a => exact h
  | exc c => exact absurd rfl (n c)
  | stuck => exact h
section
variable {X : Cx} {W : WX} {a b c : Expr} {ma mb mc : Env → R PyData} {pos : Pos}
theorem de_bin {op : Operator} {f : PyData → PyData → R PyData} (ho : OpR X (binaryOp op) (rD X f)) (hn : ∀ d e c, f d e ≠ .exc c) (ha : DE X W a ma) (hb : DE X W b mb) :
    DE X W (.BinOp a op b pos) (fun ρ => (ma ρ).bind fun d => (mb ρ).bind fun e => f d e) := by
  obtain ⟨ta, pa, qa⟩ := ha
  obtain ⟨tb, pb, qb⟩ := hb
  refine ⟨_, pe_op ho pa pb, fun ρ σ Hs H Q r h => ?_⟩
  refine qa ρ σ Hs H _ r (h.seq fun d x Hs1 H1 _ e1 o1 h1 => ?_)
  refine qb ρ σ Hs1 H1 _ (r.ext e1) (h1.seq fun e y Hs2 H2 _ e2 o2 h2 => ?_)
  exact ⟨Hs2, d, e, e2.sub, dpMono e2.s d o1, o2, h2.firm (hn d e)⟩
theorem de_cmp {op : CmpOp} {f : PyData → PyData → R PyData} (ho : OpR X (compareOp op) (rD X f)) (hn : ∀ d e c, f d e ≠ .exc c) (ha : DE X W a ma) (hb : DE X W b mb) (hm : behindInMarks op b = false) :
    DE X W (.Compare a [op] [b] pos) (fun ρ => (ma ρ).bind fun d => (mb ρ).bind fun e => f d e) := by
  obtain ⟨ta, pa, qa⟩ := ha
  obtain ⟨tb, pb, qb⟩ := hb
  refine ⟨_, pe_cmpR ho pa pb hm, fun ρ σ Hs H Q r h => ?_⟩
  refine qa ρ σ Hs H _ r (h.seq fun d x Hs1 H1 _ e1 o1 h1 => ?_)
  refine qb ρ σ Hs1 H1 _ (r.ext e1) (h1.seq fun e y Hs2 H2 _ e2 o2 h2 => ?_)
  exact ⟨Hs2, d, e, e2.sub, dpMono e2.s d o1, o2, h2.firm (hn d e)⟩
theorem dt_cmp {op : CmpOp} {f : PyData → PyData → R PyData} (ho : OpR X (compareOp op) (rD X f)) (hn : ∀ d e c, f d e ≠ .exc c) (ha : DE X W a ma) (hb : DE X W b mb) (hm : behindInMarks op b = false) :
    DT X W (.Compare a [op] [b] pos) (fun ρ => boolR ((ma ρ).bind fun d => (mb ρ).bind fun e => f d e)) := by
  obtain ⟨ta, pa, qa⟩ := ha
  obtain ⟨tb, pb, qb⟩ := hb
  refine ⟨_, pt_cmpR ho pa pb hm, fun ρ σ Hs H Q r h => ?_⟩
  have h' : PostG (Exc X W σ) Hs H ((ma ρ).bind fun d => ((mb ρ).bind fun e => boolR (f d e))) okB Q := by
    dsimp only at h
    cases h1 : ma ρ with
    | ok d =>
      rw [h1] at h
      dsimp only [R.bind] at h
      cases h2 : mb ρ with
      | ok e => rw [h2] at h; exact h
      | exc c => rw [h2] at h; exact h
      | stuck => rw [h2] at h; exact h
    | exc c => rw [h1] at h; exact h
    | stuck => rw [h1] at h; exact h
  refine qa ρ σ Hs H _ r (h'.seq fun d x Hs1 H1 _ e1 o1 h1 => ?_)
  refine qb ρ σ Hs1 H1 _ (r.ext e1) (h1.seq fun e y Hs2 H2 _ e2 o2 h2 => ?_)
  refine ⟨Hs2, d, e, e2.sub, dpMono e2.s d o1, o2, ?_⟩
  have h3 : PostG (fun _ _ => False) Hs2 H2 (boolR (f d e)) okB Q := h2.firm fun c z => by
    unfold boolR at z
    cases h4 : f d e with
    | ok x => rw [h4] at z; cases x <;> cases z
    | exc c' => exact hn d e c' h4
    | stuck => rw [h4] at z; cases z
  refine PostG.seq h3 fun dd v Hs3 H3 _ e3 o3 h4 => ?_
  cases dd with
  | bool k => cases o3; exact ⟨k, rfl, h4 k Hs3 H3 (Ext.refl e3.sub) rfl⟩
  | none => exact h4.elim
  | int i => exact h4.elim
  | str z => exact h4.elim
  | list z => exact h4.elim
  | tuple z => exact h4.elim
  | dict z => exact h4.elim
/-! #### names and constants -/
theorem de_var {i : Nat} {x : Str} (hN : X.N[i]? = some x) (hv : Vis X.env.scope x) (hd : (x == ("__debug__" : Str)) = false) (hcd : (x == ("__classdict__" : Str)) = false) : DE X W (.Name x pos) (fun ρ => Sl.get ρ[i]?) := by
  refine ⟨_, pe_var hN hv hd hcd, fun ρ σ Hs H Q r h => ?_⟩
  dsimp only at h
  cases e : ρ[i]? with
  | none => rw [e] at h; exact h.elim
  | some s =>
    rw [e] at h
    cases s with
    | no => exact h.elim
    | ow ds => exact h.elim
    | da d =>
      obtain ⟨v, h1, h2⟩ := r.slot i d e
      exact ⟨v, h1, h v Hs H (Ext.refl r.sub) h2⟩
def scalV : PyData → Option V
  | .none => some .non
  | .bool b => some (.bl b)
  | .int i => some (.int i)
  | .str z => if PyData.strOk z then some (.str z) else none
  | _ => none
theorem scal_dp {H : Hp} {d : PyData} {v : V} (h : scalV d = some v) : Dd H v d := by
  cases d with
  | none => cases h; exact .non
  | bool b => cases h; exact .bl b
  | int i => cases h; exact .int i
  | str z =>
    have h : (if PyData.strOk z = true then some (V.str z) else none) = some v := h
    by_cases q : PyData.strOk z = true
    · rw [if_pos q] at h; cases h; exact .str z q
    · rw [if_neg q] at h; cases h
  | list z => cases h
  | tuple z => cases h
  | dict z => cases h
theorem de_c {e : Expr} {d : PyData} {v : V} (h : PE X e (tC v)) (hs : scalV d = some v) : DE X W e (fun _ => .ok d) :=
  ⟨_, h, fun ρ σ Hs H Q r q => q v Hs H (Ext.refl r.sub) (scal_dp hs)⟩
/-! #### and, or, not, if -/
theorem de_not (ha : DE X W a ma) : DE X W (.UnaryOp .Not a pos) (fun ρ => (boolR (ma ρ)).bind fun k => .ok (.bool (!k))) := by
  obtain ⟨ta, pa, qa⟩ := ha
  refine ⟨_, pe_not pa, fun ρ σ Hs H Q r h => ?_⟩
  have h' : PostG (Exc X W σ) Hs H ((ma ρ).bind fun d => ((boolR (.ok d)).bind fun k => .ok (.bool (!k)))) okD Q := by
    dsimp only at h
    cases h1 : ma ρ <;> rw [h1] at h <;> exact h
  refine qa ρ σ Hs H _ r (h'.seq fun d x Hs1 H1 _ e1 o1 h1 => ?_)
  cases d with
  | bool k => cases o1; exact ⟨k, rfl, h1 (.bl (!k)) Hs1 H1 (Ext.refl e1.sub) (.bl _)⟩
  | none => exact h1.elim
  | int i => exact h1.elim
  | str z => exact h1.elim
  | list z => exact h1.elim
  | tuple z => exact h1.elim
  | dict z => exact h1.elim
theorem bool_bind {α : Type} (r : R PyData) (g : Bool → R α) : (boolR r).bind g = r.bind fun d => (boolR (.ok d)).bind g := by cases r <;> rfl
theorem de_and {rest : List Expr} (ha : DE X W a ma) (hb : DE X W (.BoolOp .And (b :: rest) pos) mb) : DE X W (.BoolOp .And (a :: b :: rest) pos) (fun ρ => (boolR (ma ρ)).bind fun k => cond k (mb ρ) (.ok (.bool false))) := by
  obtain ⟨ta, pa, qa⟩ := ha
  obtain ⟨tb, pb, qb⟩ := hb
  refine ⟨_, pe_and pa pb, fun ρ σ Hs H Q r h => ?_⟩
  dsimp only at h
  rw [bool_bind] at h
  refine qa ρ σ Hs H _ r (h.seq fun d x Hs1 H1 _ e1 o1 h1 => ?_)
  cases d with
  | bool k =>
    cases o1
    refine ⟨k, rfl, ?_⟩
    cases k with
    | true => rw [if_pos rfl]; exact qb ρ σ Hs1 H1 Q (r.ext e1) h1
    | false => rw [if_neg (by decide)]; exact h1 (.bl false) Hs1 H1 (Ext.refl e1.sub) (.bl _)
  | none => exact h1.elim
  | int i => exact h1.elim
  | str z => exact h1.elim
  | list z => exact h1.elim
  | tuple z => exact h1.elim
  | dict z => exact h1.elim
theorem de_or {rest : List Expr} (ha : DE X W a ma) (hb : DE X W (.BoolOp .Or (b :: rest) pos) mb) : DE X W (.BoolOp .Or (a :: b :: rest) pos) (fun ρ => (boolR (ma ρ)).bind fun k => cond k (.ok (.bool true)) (mb ρ)) := by
  obtain ⟨ta, pa, qa⟩ := ha
  obtain ⟨tb, pb, qb⟩ := hb
  refine ⟨_, pe_or pa pb, fun ρ σ Hs H Q r h => ?_⟩
  dsimp only at h
  rw [bool_bind] at h
  refine qa ρ σ Hs H _ r (h.seq fun d x Hs1 H1 _ e1 o1 h1 => ?_)
  cases d with
  | bool k =>
    cases o1
    refine ⟨k, rfl, ?_⟩
    cases k with
    | true => rw [if_pos rfl]; exact h1 (.bl true) Hs1 H1 (Ext.refl e1.sub) (.bl _)
    | false => rw [if_neg (by decide)]; exact qb ρ σ Hs1 H1 Q (r.ext e1) h1
  | none => exact h1.elim
  | int i => exact h1.elim
  | str z => exact h1.elim
  | list z => exact h1.elim
  | tuple z => exact h1.elim
  | dict z => exact h1.elim
theorem de_one {op} (h : DE X W a ma) : DE X W (.BoolOp op [a] pos) ma := by
  obtain ⟨ta, pa, qa⟩ := h
  exact ⟨ta, pe_one pa, qa⟩
theorem de_if {mt : Env → R Bool} (hc : DT X W c mt) (ha : DE X W a ma) (hb : DE X W b mb) : DE X W (.IfExp c a b pos) (fun ρ => (mt ρ).bind fun k => cond k (ma ρ) (mb ρ)) := by
  obtain ⟨tc, pc, qc⟩ := hc
  obtain ⟨ta, pa, qa⟩ := ha
  obtain ⟨tb, pb, qb⟩ := hb
  refine ⟨_, pe_ifExp pc pa pb, fun ρ σ Hs H Q r h => ?_⟩
  refine qc ρ σ Hs H _ r (h.seq fun k x Hs1 H1 _ e1 o1 h1 => ?_)
  subst o1
  cases x with
  | true => rw [if_pos rfl]; exact qa ρ σ Hs1 H1 Q (r.ext e1) h1
  | false => rw [if_neg (by decide)]; exact qb ρ σ Hs1 H1 Q (r.ext e1) h1
/-- tests -/
theorem dt_val (h : DE X W a ma) (he : ∀ whole, isTrue a X.env whole = (do let v ← whole; standAt a.pos; holding [v] (truthy v))) : DT X W a (fun ρ => boolR (ma ρ)) := by
  obtain ⟨ta, pa, qa⟩ := h
  refine ⟨_, pt_val pa he, fun ρ σ Hs H Q r h => ?_⟩
  refine qa ρ σ Hs H _ r (PostG.seq h fun d x Hs1 H1 _ e1 o1 h1 => ?_)
  cases d with
  | bool k => cases o1; exact ⟨k, rfl, h1 k Hs1 H1 (Ext.refl e1.sub) rfl⟩
  | none => exact h1.elim
  | int i => exact h1.elim
  | str z => exact h1.elim
  | list z => exact h1.elim
  | tuple z => exact h1.elim
  | dict z => exact h1.elim
theorem boolR_bool (r : R Bool) : boolR (r.bind fun k => .ok (.bool k)) = r := by cases r <;> rfl
theorem boolR_cond (k : Bool) (x y : R PyData) : boolR (cond k x y) = cond k (boolR x) (boolR y) := by cases k <;> rfl
theorem boolR_bind {α : Type} (r : R α) (g : α → R PyData) : boolR (r.bind g) = r.bind fun a => boolR (g a) := by cases r <;> rfl
theorem dt_not {mt : Env → R Bool} (ha : DT X W a mt) : DT X W (.UnaryOp .Not a pos) (fun ρ => boolR ((mt ρ).bind fun k => .ok (.bool (!k)))) := by
  obtain ⟨ta, pa, qa⟩ := ha
  refine ⟨_, pt_not pa, fun ρ σ Hs H Q r h => ?_⟩
  dsimp only at h
  rw [boolR_bind] at h
  refine qa ρ σ Hs H _ r (h.seq fun d x Hs1 H1 _ e1 o1 h1 => ?_)
  subst o1
  exact h1 (!x) Hs1 H1 (Ext.refl e1.sub) rfl
/-- a test whatever its whole is -/
def DW (X : Cx) (W : WX) (e : Expr) (m : Env → R Bool) : Prop := ∃ t, PW X e t ∧ ∀ ρ σ Hs H Q, Rel0 ρ σ Hs H → PostG (Exc X W σ) Hs H (m ρ) okB Q → t σ H Q
theorem DW.dt {e : Expr} {m : Env → R Bool} (h : DW X W e m) : DT X W e m := let ⟨t, p, q⟩ := h; ⟨t, p.pt, q⟩
theorem dw_and1 {mt : Env → R Bool} (h : DT X W a mt) : DW X W (.BoolOp .And [a] pos) mt := let ⟨t, p, q⟩ := h; ⟨t, pw_and1 p, q⟩
theorem dw_or1 {mt : Env → R Bool} (h : DT X W a mt) : DW X W (.BoolOp .Or [a] pos) mt := let ⟨t, p, q⟩ := h; ⟨t, pw_or1 p, q⟩
theorem dw_and {rest : List Expr} {m1 m2 : Env → R Bool} (ha : DT X W a m1) (hb : DW X W (.BoolOp .And (b :: rest) pos) m2) : DW X W (.BoolOp .And (a :: b :: rest) pos) (fun ρ => (m1 ρ).bind fun k => cond k (m2 ρ) (.ok false)) := by
  obtain ⟨ta, pa, qa⟩ := ha
  obtain ⟨tb, pb, qb⟩ := hb
  refine ⟨_, pw_and pa pb, fun ρ σ Hs H Q r h => ?_⟩
  refine qa ρ σ Hs H _ r (h.seq fun k x Hs1 H1 _ e1 o1 h1 => ?_)
  subst o1
  cases x with
  | true => rw [if_pos rfl]; exact qb ρ σ Hs1 H1 Q (r.ext e1) h1
  | false => rw [if_neg (by decide)]; exact h1 false Hs1 H1 (Ext.refl e1.sub) rfl
theorem dw_or {rest : List Expr} {m1 m2 : Env → R Bool} (ha : DT X W a m1) (hb : DW X W (.BoolOp .Or (b :: rest) pos) m2) : DW X W (.BoolOp .Or (a :: b :: rest) pos) (fun ρ => (m1 ρ).bind fun k => cond k (.ok true) (m2 ρ)) := by
  obtain ⟨ta, pa, qa⟩ := ha
  obtain ⟨tb, pb, qb⟩ := hb
  refine ⟨_, pw_or pa pb, fun ρ σ Hs H Q r h => ?_⟩
  refine qa ρ σ Hs H _ r (h.seq fun k x Hs1 H1 _ e1 o1 h1 => ?_)
  subst o1
  cases x with
  | true => rw [if_pos rfl]; exact h1 true Hs1 H1 (Ext.refl e1.sub) rfl
  | false => rw [if_neg (by decide)]; exact qb ρ σ Hs1 H1 Q (r.ext e1) h1
/-! #### arguments, tuples, lists, calls -/
theorem da_nil : DA X W [] (fun _ => .ok []) := ⟨_, pa_nil, fun ρ σ Hs H Q r h => h [] Hs H (Ext.refl r.sub) .nil⟩
def noStar : Expr → Bool
  | .Starred _ _ => false
  | _ => true
theorem star_cons {e : Expr} {es : List Expr} {env : PySem.Env} (h : noStar e = true) : starEach (e :: es) env = (false, eval e env) :: starEach es env := by
  cases e <;> first | rfl | cases h
theorem da_cons {es : List Expr} {ms : Env → R (List PyData)} (hs : noStar a = true) (ha : DE X W a ma) (hr : DA X W es ms) : DA X W (a :: es) (fun ρ => (ma ρ).bind fun d => (ms ρ).bind fun ds => .ok (d :: ds)) := by
  obtain ⟨ta, pa, qa⟩ := ha
  obtain ⟨tr, pr, qr⟩ := hr
  refine ⟨_, pa_cons pa pr (star_cons hs), fun ρ σ Hs H Q r h => ?_⟩
  refine qa ρ σ Hs H _ r (h.seq fun d x Hs1 H1 _ e1 o1 h1 => ?_)
  refine qr ρ σ Hs1 H1 _ (r.ext e1) (h1.seq fun ds xs Hs2 H2 _ e2 o2 h2 => ?_)
  exact h2 (x :: xs) Hs2 H2 (Ext.refl e2.sub) (.cons (dpMono e2.s d o1) o2)
theorem lim_line {n : Nat} (h : n ≤ lim) : n ≤ sizeLine := Nat.le_trans h (by rw [sizeLine_eq]; decide)
theorem de_tup {es : List Expr} {k : Nat} {ms : Env → R (List PyData)} (hl : ∀ ρ ds, ms ρ = .ok ds → ds.length ≤ lim) (h : DA X W es ms) : DE X W (.Tuple es k pos) (fun ρ => (ms ρ).bind fun ds => .ok (.tuple ds)) := by
  obtain ⟨t, p, q⟩ := h
  refine ⟨_, pe_tup p, fun ρ σ Hs H Q r h => ?_⟩
  refine q ρ σ Hs H _ r (h.seq fun ds xs Hs1 H1 e0 e1 o1 h1 => ?_)
  refine ⟨lim_line (by rw [dpaLen o1]; exact hl ρ ds e0), fun p hp => ?_⟩
  exact h1 (.ref p) (upd Hs1 p (.tup xs)) _ (Ext.laid e1.sub hp) (.tup (.inl upd_same) (dpaMono (same_new (e1.sub.free hp)) ds o1))
theorem de_lst {es : List Expr} {ms : Env → R (List PyData)} (hl : ∀ ρ ds, ms ρ = .ok ds → ds.length ≤ lim) (h : DA X W es ms) : DE X W (.List es pos) (fun ρ => (ms ρ).bind fun ds => .ok (.list ds)) := by
  obtain ⟨t, p, q⟩ := h
  refine ⟨_, pe_lst p, fun ρ σ Hs H Q r h => ?_⟩
  refine q ρ σ Hs H _ r (h.seq fun ds xs Hs1 H1 e0 e1 o1 h1 => ?_)
  refine ⟨lim_line (by rw [dpaLen o1]; exact hl ρ ds e0), fun p hp => ?_⟩
  exact h1 (.ref p) (upd Hs1 p (.lst xs)) _ (Ext.laid e1.sub hp) (.lst (.inl upd_same) (dpaMono (same_new (e1.sub.free hp)) ds o1))
theorem noplain {es : List Expr} {env : PySem.Env} (h : es.all noStar = true) : (backTo pos (starEach es env)).any (·.1) = false := by
  have h1 : ∀ es : List Expr, es.all noStar = true → (starEach es env).all (fun p => !p.1) = true := by
    intro es
    induction es with
    | nil => intro _; rfl
    | cons e es ih =>
      intro h
      rw [List.all_cons, Bool.and_eq_true] at h
      rw [star_cons h.1, List.all_cons, Bool.and_eq_true]
      exact ⟨rfl, ih h.2⟩
  have h2 : ∀ l : List (Bool × Sem Value), l.all (fun p => !p.1) = true → (backTo pos l).any (·.1) = false := by
    intro l
    unfold backTo
    cases l with
    | nil => intro _; rfl
    | cons p l =>
      intro h
      simp only [List.all_cons, Bool.and_eq_true, Bool.not_eq_true'] at h
      simp [h.1]
      intro a hab
      have := List.all_eq_true.mp h.2 (true, a) hab
      simp at this
  exact h2 _ (h1 es h)
end
end QB
/-! ### operators by data -/
namespace QB
open PySem L2
section
variable {X : Cx} {pins : List (Addr × Obj)} {σ : St} {H Hs : Hp} {s : Shared}
theorem rdL {a : Addr} {xs : List V} (I : Inv X pins σ H s) (h : Rd H a (.lst xs)) : xs.length ≤ sizeLine ∧ ∃ (its : List Value) (n : Nat), Vals xs its ∧ s.heap.get? a = some { cls := .type "list", data := .seq its.toArray n } := by
  obtain ⟨z, its, n, r, e⟩ := h.ok I.hok
  exact ⟨z, its, n, r, e⟩
theorem ddReads {d : PyData} {v : V} {u : Value} (I : Inv X pins σ H s) (e : Same Hs H) (h : Dd Hs v d) (r : RelV v u) : ∃ as, Reads s.heap u d as := Dp.reads I d v u (ddDp d (dpMono e d h)) r
end
theorem strOk_app {a b : Str} (ha : PyData.strOk a = true) (hb : PyData.strOk b = true) : PyData.strOk (a ++ b) = true := by
  unfold PyData.strOk at *
  show (a.cps ++ b.cps).all _ = true
  rw [Array.all_append, ha, hb]; rfl
theorem strOk_list {z : Str} : PyData.strOk z = true ↔ ∀ c ∈ z.cps.toList, c < 0x110000 := by
  have e : PyData.strOk z = z.cps.toList.all (fun c => decide (c < 0x110000)) := by
    unfold PyData.strOk
    exact Array.all_toList.symm
  rw [e, List.all_eq_true]
  exact ⟨fun h c hc => of_decide_eq_true (h c hc), fun h c hc => decide_eq_true (h c hc)⟩
theorem strOk_mk {l : List Nat} (h : ∀ c ∈ l, c < 0x110000) : PyData.strOk ⟨l.toArray⟩ = true := strOk_list.mpr (by simpa using h)
theorem strOk_one {z : Str} (hz : PyData.strOk z = true) {c : Nat} (h : c ∈ z.cps.toList) : PyData.strOk ⟨#[c]⟩ = true := strOk_mk (l := [c]) (by
  intro x hx
  simp at hx
  subst hx
  exact strOk_list.mp hz _ h)
section
variable {X : Cx}
abbrev bi2E : Bi → PyData → PyData → R PyData := bi2
theorem op_addD : OpR X (binaryOp .Add) (rD X (bi2 .add)) := by
  intro pins s σ H x y v u Q I rx ry h
  obtain ⟨Hs, d, e, sub, hd, he, h⟩ := h
  cases d with
  | int i =>
    cases e with
    | int j => cases hd; cases he; exact op_add pins s σ H _ _ v u Q I rx ry ⟨i, j, rfl, rfl, h (.int (i + j)) Hs H (Ext.refl sub) (.int _)⟩
    | _ => exact h.elim
  | str a =>
    cases e with
    | str b =>
      obtain ⟨hz, h⟩ := PostG.when h
      cases hd with
      | str _ ha =>
      cases he with
      | str _ hb => exact op_add_str pins s σ H _ _ v u Q I rx ry ⟨a, b, rfl, rfl, lim_line (of_decide_eq_true hz), h (.str (a ++ b)) Hs H (Ext.refl sub) (.str _ (strOk_app ha hb))⟩
    | _ => exact h.elim
  | list a =>
    cases e with
    | list b =>
      obtain ⟨hz, h⟩ := PostG.when h
      cases hd with
      | @lst l xs _ h1 h2 =>
      cases he with
      | @lst l2 ys _ k1 k2 =>
      cases rx
      cases ry
      obtain ⟨z1, its, n, r1, e1⟩ := rdL I (rdS sub h1)
      obtain ⟨z2, its2, n2, r2, e2⟩ := rdL I (rdS sub k1)
      have hl : xs.length + ys.length ≤ sizeLine := by rw [dpaLen h2, dpaLen k2]; exact lim_line (of_decide_eq_true hz)
      have hl1 := r1.length
      have hl2 := r2.length
      refine PySem.P.add_list e1 e2 ?_ (by rw [List.size_toArray, List.size_toArray]; omega)
      rw [show its.toArray ++ its2.toArray = (its ++ its2).toArray by simp]
      refine ⟨.ref _, _, I.lnew (t' := s.toks) (r1.append r2) (by rw [List.length_append]; exact hl), rfl, ?_⟩
      exact h (.ref _) (upd Hs _ (.lst (xs ++ ys))) _ (Ext.laid sub I.fresh) (.lst (.inl upd_same) (dpaMono (same_new (sub.free I.fresh)) _ (dpaApp h2 k2)))
    | _ => exact h.elim
  | tuple a =>
    cases e with
    | tuple b =>
      obtain ⟨hz, h⟩ := PostG.when h
      cases hd with
      | @tup l xs _ h1 h2 =>
      cases he with
      | @tup l2 ys _ k1 k2 =>
      have l1 := dpaLen h2
      have l2' := dpaLen k2
      refine op_catA pins s σ H _ _ v u Q I rx ry ⟨l, l2, xs, ys, rfl, rfl, .inl (rdS sub h1), .inl (rdS sub k1), ?_, fun e0 => ?_, fun _ e0 => ?_, fun _ _ p hp => ?_⟩
      · rw [l1, l2']; exact lim_line (of_decide_eq_true hz)
      · subst e0
        cases h2
        exact h (.ref l2) Hs H (Ext.refl sub) (.tup k1 k2)
      · subst e0
        cases k2
        rw [List.append_nil] at h
        exact h (.ref l) Hs H (Ext.refl sub) (.tup h1 h2)
      · exact h (.ref p) (upd Hs p (.tup (xs ++ ys))) _ (Ext.laid sub hp) (.tup (.inl upd_same) (dpaMono (same_new (sub.free hp)) _ (dpaApp h2 k2)))
    | _ => exact h.elim
  | _ => exact h.elim
theorem op_int {f : Value → Value → Sem Value} {C : Int → Int → Prop} {g : Int → Int → V} {b : Bi} (ho : OpR X f (rI C g)) (c : Int → Int → Bool) (gd : Int → Int → PyData)
    (hb : ∀ i j, bi2 b (.int i) (.int j) = R.when (c i j) (.ok (gd i j))) (hn : ∀ d e, (∀ i j, ¬ (d = .int i ∧ e = .int j)) → bi2 b d e = .stuck) (hc : ∀ i j, c i j = true → C i j) (hg : ∀ i j, scalV (gd i j) = some (g i j)) : OpR X f (rD X (bi2 b)) := by
  intro pins s σ H x y v u Q I rx ry h
  obtain ⟨Hs, d, e, sub, hd, he, h⟩ := h
  by_cases hde : ∃ i j, d = .int i ∧ e = .int j
  · obtain ⟨i, j, rfl, rfl⟩ := hde
    rw [hb] at h
    obtain ⟨h1, h⟩ := PostG.when h
    cases hd
    cases he
    exact ho pins s σ H _ _ v u Q I rx ry ⟨i, j, rfl, rfl, hc i j h1, h (g i j) Hs H (Ext.refl sub) (scal_dp (hg i j))⟩
  · rw [hn d e fun i j z => hde ⟨i, j, z⟩] at h
    exact h.elim
theorem rI_of {f : Value → Value → Sem Value} {g : Int → Int → V} (ho : OpR X f (rI0 g)) : OpR X f (rI (fun _ _ => True) g) := fun pins s σ H x y v u Q I rx ry h => by
  obtain ⟨i, j, h1, h2, _, h3⟩ := h
  exact ho pins s σ H x y v u Q I rx ry ⟨i, j, h1, h2, h3⟩
theorem op_subD : OpR X (binaryOp .Sub) (rD X (bi2 .sub)) :=
  op_int (rI_of op_sub) (fun _ _ => true) (fun i j => .int (i - j)) (fun _ _ => rfl) (fun d e h => by
    cases d <;> cases e <;> first | rfl | exact absurd ⟨rfl, rfl⟩ (h _ _)) (fun _ _ _ => trivial) (fun _ _ => rfl)
theorem op_fdivD : OpR X (binaryOp .FloorDiv) (rD X (bi2 .fdiv)) :=
  op_int op_fdivW (fun _ j => decide (0 < j ∧ j < 2 ^ 64)) (fun i j => .int (i / j)) (fun _ _ => rfl) (fun d e h => by
    cases d <;> cases e <;> first | rfl | exact absurd ⟨rfl, rfl⟩ (h _ _)) (fun i j h => by
      have h := of_decide_eq_true h
      exact wide_div (b := 64) h.1 (by omega) (by decide) (by decide)) (fun _ _ => rfl)
theorem op_modD : OpR X (binaryOp .Mod) (rD X (bi2 .mod)) :=
  op_int op_mod (fun _ j => decide (0 < j)) (fun i j => .int (i % j)) (fun _ _ => rfl) (fun d e h => by
    cases d <;> cases e <;> first | rfl | exact absurd ⟨rfl, rfl⟩ (h _ _)) (fun i j h => of_decide_eq_true h) (fun _ _ => rfl)
theorem op_powD : OpR X (binaryOp .Pow) (rD X (bi2 .pow)) :=
  op_int op_pow (fun i j => decide (0 ≤ j ∧ j ≤ 1000 ∧ i.natAbs < 2 ^ 64)) (fun i j => .int (i ^ j.toNat)) (fun _ _ => rfl) (fun d e h => by
    cases d <;> cases e <;> first | rfl | exact absurd ⟨rfl, rfl⟩ (h _ _)) (fun i j h => by
      have h := of_decide_eq_true h
      exact ⟨h.1, by omega, h.2.2⟩) (fun _ _ => rfl)
theorem op_leD : OpR X (compareOp .LtE) (rD X (bi2 .le)) :=
  op_int (rI_of op_le) (fun _ _ => true) (fun i j => .bool (decide (i ≤ j))) (fun _ _ => rfl) (fun d e h => by
    cases d <;> cases e <;> first | rfl | exact absurd ⟨rfl, rfl⟩ (h _ _)) (fun _ _ _ => trivial) (fun _ _ => rfl)
theorem op_gtD : OpR X (compareOp .Gt) (rD X (bi2 .gt)) :=
  op_int (rI_of op_gt) (fun _ _ => true) (fun i j => .bool (decide (j < i))) (fun _ _ => rfl) (fun d e h => by
    cases d <;> cases e <;> first | rfl | exact absurd ⟨rfl, rfl⟩ (h _ _)) (fun _ _ _ => trivial) (fun _ _ => rfl)
theorem op_geD : OpR X (compareOp .GtE) (rD X (bi2 .ge)) :=
  op_int (rI_of op_ge) (fun _ _ => true) (fun i j => .bool (decide (j ≤ i))) (fun _ _ => rfl) (fun d e h => by
    cases d <;> cases e <;> first | rfl | exact absurd ⟨rfl, rfl⟩ (h _ _)) (fun _ _ _ => trivial) (fun _ _ => rfl)
theorem flat_dd : ∀ (k : Nat) {Hs : Hp} {xs : List V} {ds : List PyData}, DdAll Hs xs ds → DdAll Hs (List.replicate k xs).flatten (List.replicate k ds).flatten
  | 0, _, _, _, _ => .nil
  | k + 1, _, _, _, h => by
    rw [List.replicate_succ, List.replicate_succ, List.flatten_cons, List.flatten_cons]
    exact dpaApp h (flat_dd k h)
theorem mulIs {i : Int} (h : i64 i = true) : -(2 ^ 64) < i ∧ i < 2 ^ 64 := of_decide_eq_true h
theorem op_mulD : OpR X (binaryOp .Mult) (rD X (bi2 .mul)) := by
  intro pins s σ H x y v u Q I rx ry h
  obtain ⟨Hs, d, e, sub, hd, he, h⟩ := h
  cases d with
  | int i =>
    cases e with
    | int j =>
      obtain ⟨hc, h⟩ := PostG.when h
      cases hd; cases he
      rw [Bool.or_eq_true] at hc
      exact op_mul pins s σ H _ _ v u Q I rx ry ⟨i, j, rfl, rfl, hc.elim (fun z => .inl (mulIs z)) (fun z => .inr (mulIs z)), h (.int (i * j)) Hs H (Ext.refl sub) (.int _)⟩
    | _ => exact h.elim
  | list a =>
    cases e with
    | int k =>
      obtain ⟨hc, h⟩ := PostG.when h
      have hc := of_decide_eq_true hc
      cases hd with
      | @lst l xs _ h1 h2 =>
      cases he
      cases rx
      obtain ⟨tk, rfl⟩ := ry
      obtain ⟨z1, its, n, r1, e1⟩ := rdL I (rdS sub h1)
      have l1 := dpaLen h2
      have l2 := r1.length
      have a1 : xs.length * k.toNat ≤ 1000 * 1000 := Nat.mul_le_mul (by omega) (by omega)
      have hz : its.toArray.size * k.toNat ≤ sizeLine := by rw [List.size_toArray, ← l2, sizeLine_eq]; omega
      have c1 : ¬ its.toArray.size * k.toNat > (2 ^ 63 - 1) / 8 := fun z => by rw [sizeLine_eq] at hz; omega
      have c2 : ¬ (!Builtin.List.listFitsIndex k) = true := fun z => by rw [fitsIndex_both (by omega) (by omega)] at z; cases z
      have c3 : ¬ Builtin.List.listTooLong (its.toArray.size * k.toNat) = true := fun z => by rw [notLongL hz] at z; cases z
      have f0 : ∀ m : Nat, List.foldl (fun x1 x2 => x1 ++ x2) #[] (List.replicate m its.toArray) = (List.replicate m its).flatten.toArray := fun m => by
        have q := foldl_rep its m []
        rwa [List.nil_append] at q
      have f1 : List.foldl (fun x1 x2 => x1 ++ x2) #[] (List.replicate (if its.toArray.isEmpty = true then 0 else k.toNat) its.toArray) = (List.replicate k.toNat its).flatten.toArray := by
        rw [f0]
        cases its with
        | nil => simp
        | cons b r => simp
      refine wpAny_binaryOp_repeat_ref (T := "list") (U := "int") (by decide) ⟨_, e1, rfl⟩ (fun s' => typeIs_int s' k tk) noFill_list_mul F.fills_int_mul F.slot_int_rmul repeat_list F.slot_int_index.lookup
        (PySem.call_meets F.slot_int_rmul (typeIs_int s k tk) F.entry_int_rmul (F.args_int_rmul_2 _ _) (int___rmul___int_list k tk l its.toArray n)
          ⟨e1, rfl, ⟨_, e1, rfl⟩, PySem.call_meets F.slot_list_mul ⟨_, e1, rfl⟩ F.entry_list_mul (F.args_list_mul_2 _ _) (AutoListH.list___mul___list_int_3 l its.toArray n k tk c2 c1 c3) ⟨e1, ?_⟩⟩)
      rw [f1]
      refine ⟨.ref _, _, I.lnew (t' := s.toks) (r1.rep k.toNat) (by rw [PyProof.Rows.lm_len_rep_flat, Nat.mul_comm]; rw [sizeLine_eq]; omega), rfl, ?_⟩
      exact h (.ref _) (upd Hs _ (.lst _)) _ (Ext.laid sub I.fresh) (.lst (.inl upd_same) (dpaMono (same_new (sub.free I.fresh)) _ (flat_dd _ h2)))
    | _ => exact h.elim
  | tuple a =>
    cases e with
    | int k =>
      obtain ⟨hc, h⟩ := PostG.when h
      have hc := of_decide_eq_true hc
      cases hd with
      | @tup l xs _ h1 h2 =>
      cases he
      have l1 := dpaLen h2
      exact op_repT pins s σ H _ _ v u Q I rx ry ⟨l, k, xs, rfl, rfl, .inl (rdS sub h1), fun z => by subst z; simp at l1; omega, by omega, by omega, by omega, fun p hp =>
        h (.ref p) (upd Hs p (.tup _)) _ (Ext.laid sub hp) (.tup (.inl upd_same) (dpaMono (same_new (sub.free hp)) _ (flat_dd _ h2)))⟩
    | _ => exact h.elim
  | _ => exact h.elim
/-! #### comparisons -/
theorem dep_room {A : Around} {d e : PyData} (hu : A.units + 64 < cLine) (h : (depOk d || depOk e) = true) : A.units + min d.depth e.depth < cLine := by
  rw [Bool.or_eq_true] at h
  rcases h with h | h
  · have h := of_decide_eq_true h
    have : min d.depth e.depth ≤ d.depth := Nat.min_le_left _ _
    omega
  · have h := of_decide_eq_true h
    have : min d.depth e.depth ≤ e.depth := Nat.min_le_right _ _
    omega
theorem op_eqDD (hu : X.A.units + 64 < cLine) : OpR X (compareOp .Eq) (rD X (bi2 .eq)) := by
  intro pins s σ H x y v u Q I rx ry h
  obtain ⟨Hs, d, e, sub, hd, he, h⟩ := h
  have h : PostG (fun _ _ => False) Hs H (R.when (depOk d || depOk e) (.ok (.bool (PyData.eqv d e)))) okD Q := by cases d <;> exact h
  obtain ⟨hc, h⟩ := PostG.when h
  obtain ⟨as, r1⟩ := ddReads I sub hd rx
  obtain ⟨bs, r2⟩ := ddReads I sub he ry
  exact SeqAt.compareEq_reads r1 r2 (ddLay d hd) (ddLay e he) (dep_room hu hc) ⟨.bl _, H, I, rfl, h _ Hs H (Ext.refl sub) (.bl _)⟩
theorem op_neDD (hu : X.A.units + 64 < cLine) : OpR X (compareOp .NotEq) (rD X (bi2 .ne)) := by
  intro pins s σ H x y v u Q I rx ry h
  obtain ⟨Hs, d, e, sub, hd, he, h⟩ := h
  have h : PostG (fun _ _ => False) Hs H (R.when (depOk d || depOk e) (.ok (.bool (!PyData.eqv d e)))) okD Q := by cases d <;> exact h
  obtain ⟨hc, h⟩ := PostG.when h
  obtain ⟨as, r1⟩ := ddReads I sub hd rx
  obtain ⟨bs, r2⟩ := ddReads I sub he ry
  exact SeqAt.compareNe_reads r1 r2 (ddLay d hd) (ddLay e he) (dep_room hu hc) ⟨.bl _, H, I, rfl, h _ Hs H (Ext.refl sub) (.bl _)⟩
theorem lt_data {d e : PyData} (hn : ∀ i j, ¬ (d = .int i ∧ e = .int j)) : bi2 .lt d e = R.when (W.alike d e && depOk d && depOk e && (match d with | .none => false | _ => true)) (.ok (.bool (W.dataLt d e))) := by
  cases d with
  | int i =>
    cases e with
    | int j => exact absurd ⟨rfl, rfl⟩ (hn i j)
    | _ => rfl
  | _ => rfl
theorem op_ltD (hu : X.A.units + 64 < cLine) : OpR X (compareOp .Lt) (rD X (bi2 .lt)) := by
  intro pins s σ H x y v u Q I rx ry h
  obtain ⟨Hs, d, e, sub, hd, he, h⟩ := h
  by_cases hde : ∃ i j, d = .int i ∧ e = .int j
  · obtain ⟨i, j, rfl, rfl⟩ := hde
    cases hd
    cases he
    exact op_lt pins s σ H _ _ v u Q I rx ry ⟨i, j, rfl, rfl, h (.bl (decide (i < j))) Hs H (Ext.refl sub) (.bl _)⟩
  · rw [lt_data fun i j z => hde ⟨i, j, z⟩] at h
    obtain ⟨hc, h⟩ := PostG.when h
    simp only [Bool.and_eq_true] at hc
    obtain ⟨⟨⟨h1, h2⟩, h3⟩, h4⟩ := hc
    obtain ⟨as, r1⟩ := ddReads I sub hd rx
    obtain ⟨bs, r2⟩ := ddReads I sub he ry
    exact PySem.W.rcLt_alike d e X.A s v u as bs r1 r2 h1 (fun z => by subst z; cases h4) (dep_room hu (by rw [h2]; rfl)) _ _ _ _ ⟨.bl _, H, I, rfl, h _ Hs H (Ext.refl sub) (.bl _)⟩
def dNone : PyData → Bool
  | .none => true
  | _ => false
theorem none_dd {Hs : Hp} {x : V} {d : PyData} (h : Dd Hs x d) : decide (x = .non) = dNone d := by
  cases d <;> cases h <;> rfl
theorem op_isD : OpR X (compareOp .Is) (rD X (bi2 .is)) := by
  intro pins s σ H x y v u Q I rx ry h
  obtain ⟨Hs, d, e, sub, hd, he, h⟩ := h
  cases e with
  | none =>
    have h : PostG (fun _ _ => False) Hs H (.ok (.bool (dNone d))) okD Q := by cases d <;> exact h
    cases he
    have q := none_dd hd
    exact op_isN pins s σ H _ _ v u Q I rx ry ⟨rfl, by rw [q]; exact h (.bl _) Hs H (Ext.refl sub) (.bl _)⟩
  | bool b =>
    cases d with
    | bool a =>
      cases hd; cases he
      exact op_isBl pins s σ H _ _ v u Q I rx ry ⟨a, b, rfl, rfl, h (.bl _) Hs H (Ext.refl sub) (.bl _)⟩
    | _ => exact h.elim
  | _ => cases d <;> exact h.elim
theorem op_isntD : OpR X (compareOp .IsNot) (rD X (bi2 .isnt)) := by
  intro pins s σ H x y v u Q I rx ry h
  obtain ⟨Hs, d, e, sub, hd, he, h⟩ := h
  cases e with
  | none =>
    have h : PostG (fun _ _ => False) Hs H (.ok (.bool (!dNone d))) okD Q := by cases d <;> exact h
    cases he
    have q := none_dd hd
    exact op_notN pins s σ H _ _ v u Q I rx ry ⟨rfl, by rw [q]; exact h (.bl _) Hs H (Ext.refl sub) (.bl _)⟩
  | bool b =>
    cases d with
    | bool a =>
      cases hd; cases he
      exact op_notBl pins s σ H _ _ v u Q I rx ry ⟨a, b, rfl, rfl, h (.bl _) Hs H (Ext.refl sub) (.bl _)⟩
    | _ => exact h.elim
  | _ => cases d <;> exact h.elim
theorem in_room {A : Around} {d : PyData} {xs : List PyData} (hu : A.units + 64 < cLine) (h : depOk d = true) : A.units + 1 + min (PyData.depthAll xs) d.depth < cLine := by
  have h := of_decide_eq_true h
  have : min (PyData.depthAll xs) d.depth ≤ d.depth := Nat.min_le_right _ _
  omega
theorem in_seq {neg : Bool} {b : Bi} {op : CmpOp} (hb : ∀ d ds, bi2 b d (.list ds) = R.when (depOk d) (.ok (.bool (xor neg (inD d ds))))) (hb2 : ∀ d ds, bi2 b d (.tuple ds) = R.when (depOk d) (.ok (.bool (xor neg (inD d ds)))))
    (hs : ∀ a c, bi2 b (.str a) (.str c) = .ok (.bool (xor neg (strIn a c)))) (hn : ∀ d e, (∀ ds, e ≠ .list ds) → (∀ ds, e ≠ .tuple ds) → (∀ a c, ¬ (d = .str a ∧ e = .str c)) → bi2 b d e = .stuck)
    (rl : ∀ (d : PyData) (xs : List PyData) (s : Shared) (x c : Value) (as bs : List Addr) (Q : Value → Shared → Prop), Reads s.heap c (.list xs) as → Reads s.heap x d bs → PyData.canLayAll0 xs = true → d.canLay0 = true → X.A.units + 1 + min (PyData.depthAll xs) d.depth < cLine → Q (.bool (xor neg (inD d xs))) s → wpAny (model X.prog X.w) X.A (compareOp op x c) Q X.xe s)
    (rt : ∀ (d : PyData) (xs : List PyData) (s : Shared) (x c : Value) (as bs : List Addr) (Q : Value → Shared → Prop), Reads s.heap c (.tuple xs) as → Reads s.heap x d bs → PyData.canLayAll0 xs = true → d.canLay0 = true → X.A.units + 1 + min (PyData.depthAll xs) d.depth < cLine → Q (.bool (xor neg (inD d xs))) s → wpAny (model X.prog X.w) X.A (compareOp op x c) Q X.xe s)
    (rs : OpR X (compareOp op) (fun x y H Q => ∃ i j, x = .str i ∧ y = .str j ∧ Q (.bl (xor neg (strIn i j))) H)) (hu : X.A.units + 64 < cLine) : OpR X (compareOp op) (rD X (bi2 b)) := by
  intro pins s σ H x y v u Q I rx ry h
  obtain ⟨Hs, d, e, sub, hd, he, h⟩ := h
  by_cases e1 : ∃ ds, e = .list ds
  · obtain ⟨ds, rfl⟩ := e1
    rw [hb] at h
    obtain ⟨hc, h⟩ := PostG.when h
    obtain ⟨as, r1⟩ := ddReads I sub hd rx
    obtain ⟨bs, r2⟩ := ddReads I sub he ry
    exact rl d ds s v u bs as _ r2 r1 (ddLay _ he) (ddLay d hd) (in_room hu hc) ⟨.bl _, H, I, rfl, h _ Hs H (Ext.refl sub) (.bl _)⟩
  · by_cases e2 : ∃ ds, e = .tuple ds
    · obtain ⟨ds, rfl⟩ := e2
      rw [hb2] at h
      obtain ⟨hc, h⟩ := PostG.when h
      obtain ⟨as, r1⟩ := ddReads I sub hd rx
      obtain ⟨bs, r2⟩ := ddReads I sub he ry
      exact rt d ds s v u bs as _ r2 r1 (ddLay _ he) (ddLay d hd) (in_room hu hc) ⟨.bl _, H, I, rfl, h _ Hs H (Ext.refl sub) (.bl _)⟩
    · by_cases e3 : ∃ a c, d = .str a ∧ e = .str c
      · obtain ⟨a, c, rfl, rfl⟩ := e3
        rw [hs] at h
        cases hd
        cases he
        exact rs pins s σ H _ _ v u Q I rx ry ⟨a, c, rfl, rfl, h (.bl _) Hs H (Ext.refl sub) (.bl _)⟩
      · rw [hn d e (fun ds z => e1 ⟨ds, z⟩) (fun ds z => e2 ⟨ds, z⟩) (fun a c z => e3 ⟨a, c, z⟩)] at h
        exact h.elim
theorem op_innD (hu : X.A.units + 64 < cLine) : OpR X (compareOp .In) (rD X (bi2 .inn)) :=
  in_seq (neg := false) (fun d ds => by cases d <;> simp [bi2]) (fun d ds => by cases d <;> simp [bi2]) (fun a c => by simp [bi2]) (fun d e h1 h2 h3 => by
      cases e <;> first | rfl | exact absurd rfl (h1 _) | exact absurd rfl (h2 _) | (cases d <;> first | rfl | exact absurd ⟨rfl, rfl⟩ (h3 _ _)))
    (fun d xs s x c as bs Q r1 r2 c1 c2 hu q => SeqAt.in_list_reads r1 r2 c1 c2 hu (by simpa [inD] using q))
    (fun d xs s x c as bs Q r1 r2 c1 c2 hu q => SeqAt.in_tuple_reads r1 r2 c1 c2 hu (by simpa [inD] using q))
    (fun pins s σ H x y v u Q I rx ry h => op_in_str pins s σ H x y v u Q I rx ry (by simpa [strIn] using h)) hu
theorem op_ninD (hu : X.A.units + 64 < cLine) : OpR X (compareOp .NotIn) (rD X (bi2 .nin)) :=
  in_seq (neg := true) (fun d ds => by cases d <;> simp [bi2]) (fun d ds => by cases d <;> simp [bi2]) (fun a c => by simp [bi2]) (fun d e h1 h2 h3 => by
      cases e <;> first | rfl | exact absurd rfl (h1 _) | exact absurd rfl (h2 _) | (cases d <;> first | rfl | exact absurd ⟨rfl, rfl⟩ (h3 _ _)))
    (fun d xs s x c as bs Q r1 r2 c1 c2 hu q => SeqAt.notIn_list_reads r1 r2 c1 c2 hu (by simpa [inD] using q))
    (fun d xs s x c as bs Q r1 r2 c1 c2 hu q => SeqAt.notIn_tuple_reads r1 r2 c1 c2 hu (by simpa [inD] using q))
    (fun pins s σ H x y v u Q I rx ry h => op_notin_str pins s σ H x y v u Q I rx ry (by simpa [strIn] using h)) hu
/-! #### the operators' signs -/
def binB : Operator → Option Bi
  | .Add => some .add | .Sub => some .sub | .Mult => some .mul | .FloorDiv => some .fdiv | .Mod => some .mod | .Pow => some .pow | _ => none
def cmpB : CmpOp → Option Bi
  | .Eq => some .eq | .NotEq => some .ne | .Lt => some .lt | .LtE => some .le | .Gt => some .gt | .GtE => some .ge | .Is => some .is | .IsNot => some .isnt | .In => some .inn | .NotIn => some .nin
theorem op_binD {op : Operator} {b : Bi} (h : binB op = some b) : OpR X (binaryOp op) (rD X (bi2 b)) := by
  cases op <;> cases h
  · exact op_addD
  · exact op_subD
  · exact op_mulD
  · exact op_modD
  · exact op_powD
  · exact op_fdivD
theorem op_cmpD {op : CmpOp} {b : Bi} (hu : X.A.units + 64 < cLine) (h : cmpB op = some b) : OpR X (compareOp op) (rD X (bi2 b)) := by
  cases op <;> cases h
  · exact op_eqDD hu
  · exact op_neDD hu
  · exact op_ltD hu
  · exact op_leD
  · exact op_gtD
  · exact op_geD
  · exact op_isD
  · exact op_isntD
  · exact op_innD hu
  · exact op_ninD hu
theorem when_noexc {α : Type} {c : Bool} {a : R α} {x : Str} (h : ∀ x, a ≠ .exc x) : R.when c a ≠ .exc x := by
  cases c with
  | true => exact h x
  | false => intro z; cases z
end
end QB
/-! ### built-ins, subscripts, methods by data -/
namespace QB
open PySem L2
section
variable {Hs : Hp}
theorem dd_bools : ∀ {ds : List PyData} {xs : List V} {bs : List Bool}, DdAll Hs xs ds → asBools ds = some bs → xs = bs.map V.bl
  | [], _, _, h, e => by cases h; cases e; rfl
  | .bool b :: ds, _, _, h, e => by
    cases h with
    | cons h1 h2 =>
    cases h1
    cases q : asBools ds with
    | none => rw [asBools, q] at e; cases e
    | some r =>
      rw [asBools, q] at e
      cases e
      rw [dd_bools h2 q]; rfl
  | .none :: _, _, _, _, e => by cases e
  | .int _ :: _, _, _, _, e => by cases e
  | .str _ :: _, _, _, _, e => by cases e
  | .list _ :: _, _, _, _, e => by cases e
  | .tuple _ :: _, _, _, _, e => by cases e
  | .dict _ :: _, _, _, _, e => by cases e
theorem dd_ints : ∀ {ds : List PyData} {xs : List V} {bs : List Int}, DdAll Hs xs ds → asInts ds = some bs → xs = bs.map V.int
  | [], _, _, h, e => by cases h; cases e; rfl
  | .int b :: ds, _, _, h, e => by
    cases h with
    | cons h1 h2 =>
    cases h1
    cases q : asInts ds with
    | none => rw [asInts, q] at e; cases e
    | some r =>
      rw [asInts, q] at e
      cases e
      rw [dd_ints h2 q]; rfl
  | .none :: _, _, _, _, e => by cases e
  | .bool _ :: _, _, _, _, e => by cases e
  | .str _ :: _, _, _, _, e => by cases e
  | .list _ :: _, _, _, _, e => by cases e
  | .tuple _ :: _, _, _, _, e => by cases e
  | .dict _ :: _, _, _, _, e => by cases e
theorem dd_strs : ∀ {ds : List PyData} {xs : List V} {bs : List Str}, DdAll Hs xs ds → asStrs ds = some bs → xs = bs.map V.str ∧ ∀ z ∈ bs, PyData.strOk z = true
  | [], _, _, h, e => by cases h; cases e; exact ⟨rfl, fun _ z => nomatch z⟩
  | .str b :: ds, _, _, h, e => by
    cases h with
    | cons h1 h2 =>
    cases h1 with
    | str _ hb =>
    cases q : asStrs ds with
    | none => rw [asStrs, q] at e; cases e
    | some r =>
      rw [asStrs, q] at e
      cases e
      obtain ⟨e1, e2⟩ := dd_strs h2 q
      refine ⟨by rw [e1]; rfl, fun z hz => ?_⟩
      rcases List.mem_cons.mp hz with rfl | hz
      · exact hb
      · exact e2 z hz
  | .none :: _, _, _, _, e => by cases e
  | .bool _ :: _, _, _, _, e => by cases e
  | .int _ :: _, _, _, _, e => by cases e
  | .list _ :: _, _, _, _, e => by cases e
  | .tuple _ :: _, _, _, _, e => by cases e
  | .dict _ :: _, _, _, _, e => by cases e
theorem dd_of_strs : ∀ {bs : List Str}, (∀ z ∈ bs, PyData.strOk z = true) → DdAll Hs (bs.map V.str) (bs.map PyData.str)
  | [], _ => .nil
  | z :: bs, h => .cons (.str z (h z (by simp))) (dd_of_strs fun y hy => h y (List.mem_cons_of_mem _ hy))
theorem dd_of_ints : ∀ {bs : List Int}, DdAll Hs (bs.map V.int) (bs.map PyData.int)
  | [] => .nil
  | z :: bs => .cons (.int z) dd_of_ints
end
def c1 (u : Un) : List PyData → R PyData
  | [d] => un1 u d
  | _ => .stuck
def c2 (b : Bi) : List PyData → R PyData
  | [d, e] => bi2 b d e
  | _ => .stuck
section
variable {X : Cx}
theorem callR1 {f : Value} {u : Un} {r : List V → Hp → VK → Prop} (hr : CallR X f r) (h : ∀ (Hs H : Hp) (v : V) (d : PyData) (Q : VK), Same Hs H → Dd Hs v d → PostG (fun _ _ => False) Hs H (un1 u d) okD Q → r [v] H Q) : CallR X f (rCD X (c1 u)) := by
  intro pins s σ H xs us Q I rv hq
  obtain ⟨Hs, ds, sub, hd, q⟩ := hq
  match ds, hd, q with
  | [d], .cons hd .nil, q => exact hr pins s σ H _ us Q I rv (h Hs H _ d Q sub hd q)
  | [], _, q => exact q.elim
  | _ :: _ :: _, _, q => exact q.elim
theorem callR2 {f : Value} {b : Bi} {r : List V → Hp → VK → Prop} (hr : CallR X f r) (h : ∀ (Hs H : Hp) (v w : V) (d e : PyData) (Q : VK), Same Hs H → Dd Hs v d → Dd Hs w e → PostG (fun _ _ => False) Hs H (bi2 b d e) okD Q → r [v, w] H Q) : CallR X f (rCD X (c2 b)) := by
  intro pins s σ H xs us Q I rv hq
  obtain ⟨Hs, ds, sub, hd, q⟩ := hq
  match ds, hd, q with
  | [d, e], .cons hd (.cons he .nil), q => exact hr pins s σ H _ us Q I rv (h Hs H _ _ d e Q sub hd he q)
  | [], _, q => exact q.elim
  | [_], _, q => exact q.elim
  | _ :: _ :: _ :: _, _, q => exact q.elim
theorem cl_len : CallR X (.builtin "len") (rCD X (c1 .len)) := callR1 call_len fun Hs H v d Q sub hd h => by
  cases d with
  | str z =>
    obtain ⟨hz, h⟩ := PostG.when h
    cases hd
    exact ⟨_, z.length, rfl, ⟨lim_line (of_decide_eq_true hz), rfl⟩, h _ Hs H (Ext.refl sub) (.int _)⟩
  | list ds =>
    cases hd with
    | lst h1 h2 => exact ⟨_, _, rfl, .inl ⟨_, .inl (rdS sub h1), rfl⟩, by rw [dpaLen h2]; exact h _ Hs H (Ext.refl sub) (.int _)⟩
  | tuple ds =>
    cases hd with
    | tup h1 h2 => exact ⟨_, _, rfl, .inr ⟨_, .inl (rdS sub h1), rfl⟩, by rw [dpaLen h2]; exact h _ Hs H (Ext.refl sub) (.int _)⟩
  | _ => exact h.elim
theorem cl_all (hc : X.calm = true) : CallR X (.builtin "all") (rCD X (c1 .all)) := callR1 (cr_all hc) fun Hs H v d Q sub hd h => by
  cases d with
  | list ds =>
    obtain ⟨bs, hb, h⟩ := PostG.of h
    cases hd with
    | lst h1 h2 =>
      have e := dd_bools h2 hb
      subst e
      exact ⟨_, bs, rfl, .inl (rdS sub h1), h _ Hs H (Ext.refl sub) (.bl _)⟩
  | _ => exact h.elim
theorem cl_any (hc : X.calm = true) : CallR X (.builtin "any") (rCD X (c1 .any)) := callR1 (cr_any hc) fun Hs H v d Q sub hd h => by
  cases d with
  | list ds =>
    obtain ⟨bs, hb, h⟩ := PostG.of h
    cases hd with
    | lst h1 h2 =>
      have e := dd_bools h2 hb
      subst e
      exact ⟨_, bs, rfl, .inl (rdS sub h1), h _ Hs H (Ext.refl sub) (.bl _)⟩
  | _ => exact h.elim
theorem cl_sum (hc : X.calm = true) : CallR X (.builtin "sum") (rCD X (c1 .sum)) := callR1 (cr_sum hc) fun Hs H v d Q sub hd h => by
  cases d with
  | list ds =>
    obtain ⟨bs, hb, h⟩ := PostG.of h
    cases hd with
    | lst h1 h2 =>
      have e := dd_ints h2 hb
      subst e
      exact ⟨_, bs, rfl, .inl (rdS sub h1), h _ Hs H (Ext.refl sub) (.int _)⟩
  | _ => exact h.elim
theorem foldmax : ∀ (r : List Int) (a : Int), (r.foldl (fun m x => if m < x then x else m) a ∈ a :: r) ∧ ∀ y ∈ a :: r, y ≤ r.foldl (fun m x => if m < x then x else m) a
  | [], a => ⟨by simp, fun y hy => by simp at hy; subst hy; exact Int.le_refl _⟩
  | b :: r, a => by
    rw [List.foldl_cons]
    obtain ⟨h1, h2⟩ := foldmax r (if a < b then b else a)
    refine ⟨?_, fun y hy => ?_⟩
    · rcases List.mem_cons.mp h1 with h | h
      · rw [h]; split <;> simp
      · exact List.mem_cons_of_mem _ (List.mem_cons_of_mem _ h)
    · have h3 := h2 (if a < b then b else a) (by simp)
      rcases List.mem_cons.mp hy with rfl | hy
      · refine Int.le_trans ?_ h3
        split <;> omega
      · rcases List.mem_cons.mp hy with rfl | hy
        · refine Int.le_trans ?_ h3
          split <;> omega
        · exact h2 y (List.mem_cons_of_mem _ hy)
theorem foldmin : ∀ (r : List Int) (a : Int), (r.foldl (fun m x => if x < m then x else m) a ∈ a :: r) ∧ ∀ y ∈ a :: r, r.foldl (fun m x => if x < m then x else m) a ≤ y
  | [], a => ⟨by simp, fun y hy => by simp at hy; subst hy; exact Int.le_refl _⟩
  | b :: r, a => by
    rw [List.foldl_cons]
    obtain ⟨h1, h2⟩ := foldmin r (if b < a then b else a)
    refine ⟨?_, fun y hy => ?_⟩
    · rcases List.mem_cons.mp h1 with h | h
      · rw [h]; split <;> simp
      · exact List.mem_cons_of_mem _ (List.mem_cons_of_mem _ h)
    · have h3 := h2 (if b < a then b else a) (by simp)
      rcases List.mem_cons.mp hy with rfl | hy
      · refine Int.le_trans h3 ?_
        split <;> omega
      · rcases List.mem_cons.mp hy with rfl | hy
        · refine Int.le_trans h3 ?_
          split <;> omega
        · exact h2 y (List.mem_cons_of_mem _ hy)
theorem maxI_is {ns : List Int} {m n : Int} (h : maxI ns = some m) (h1 : n ∈ ns) (h2 : ∀ y ∈ ns, y ≤ n) : n = m := by
  cases ns with
  | nil => cases h
  | cons a r =>
    cases h
    obtain ⟨k1, k2⟩ := foldmax r a
    have := h2 _ k1
    have := k2 _ h1
    omega
theorem minI_is {ns : List Int} {m n : Int} (h : minI ns = some m) (h1 : n ∈ ns) (h2 : ∀ y ∈ ns, n ≤ y) : n = m := by
  cases ns with
  | nil => cases h
  | cons a r =>
    cases h
    obtain ⟨k1, k2⟩ := foldmin r a
    have := h2 _ k1
    have := k2 _ h1
    omega
theorem cl_max1 (hc : X.calm = true) : CallR X (.builtin "max") (rCD X (c1 .max1)) := callR1 (cr_max hc) fun Hs H v d Q sub hd h => by
  cases d with
  | list ds =>
    obtain ⟨bs, hb, h⟩ := PostG.of h
    obtain ⟨m, hm, h⟩ := PostG.of h
    cases hd with
    | lst h1 h2 =>
      have e := dd_ints h2 hb
      subst e
      exact ⟨_, bs, rfl, .inl (rdS sub h1), by cases bs with | nil => cases hm | cons a r => simp, fun n k1 k2 => by rw [maxI_is hm k1 k2]; exact h _ Hs H (Ext.refl sub) (.int _)⟩
  | _ => exact h.elim
theorem cl_max2 (hc : X.calm = true) : CallR X (.builtin "max") (rCD X (c2 .max2)) := callR2 (call_max2 hc) fun Hs H v w d e Q sub hd he h => by
  cases d with
  | int i =>
    cases e with
    | int j => cases hd; cases he; exact ⟨i, j, rfl, h _ Hs H (Ext.refl sub) (.int _)⟩
    | _ => exact h.elim
  | _ => exact h.elim
theorem cl_min2 (hc : X.calm = true) : CallR X (.builtin "min") (rCD X (c2 .min2)) := callR2 (call_min2 hc) fun Hs H v w d e Q sub hd he h => by
  cases d with
  | int i =>
    cases e with
    | int j => cases hd; cases he; exact ⟨i, j, rfl, h _ Hs H (Ext.refl sub) (.int _)⟩
    | _ => exact h.elim
  | _ => exact h.elim
theorem cl_int : CallR X (.type "int") (rCD X (c1 .toInt)) := callR1 call_int_str fun Hs H v d Q sub hd h => by
  cases d with
  | str z =>
    obtain ⟨hz, h⟩ := PostG.when h
    obtain ⟨n, hn, h⟩ := PostG.of h
    cases hd
    exact ⟨z, n, rfl, hn, of_decide_eq_true hz, h _ Hs H (Ext.refl sub) (.int _)⟩
  | _ => exact h.elim
theorem strOk_of (z : String) : PyData.strOk (Str.ofString z) = true := strOk_list.mpr fun c hc => by
  rw [Str.ofString_eq_toList] at hc
  have hc : c ∈ z.toList.map Char.toNat := by simpa using hc
  obtain ⟨a, _, rfl⟩ := List.mem_map.mp hc
  have := a.valid
  unfold UInt32.isValidChar Nat.isValidChar at this
  show a.val.toNat < _
  omega
theorem strOk_int (i : Int) : PyData.strOk (toString i : Str) = true := strOk_of _
theorem cl_str : CallR X (.type "str") (rCD X (c1 .toStr)) := callR1 call_str_int fun Hs H v d Q sub hd h => by
  cases d with
  | int i =>
    obtain ⟨hz, h⟩ := PostG.when h
    cases hd
    have hz := of_decide_eq_true hz
    exact ⟨i, rfl, Nat.lt_of_lt_of_le (PySem.Flt.log2_lt_of (by decide) hz) (by decide), h _ Hs H (Ext.refl sub) (.str _ (strOk_int i))⟩
  | _ => exact h.elim
theorem cl_list : CallR X (.type "list") (rCD X (c1 .toList)) := callR1 call_list_of fun Hs H v d Q sub hd h => by
  cases d with
  | list ds =>
    cases hd with
    | lst h1 h2 => exact ⟨_, _, rfl, .inl (.inl (rdS sub h1)), fun p hp => h _ (upd Hs p _) _ (Ext.laid sub hp) (.lst (.inl upd_same) (dpaMono (same_new (sub.free hp)) _ h2))⟩
  | tuple ds =>
    cases hd with
    | tup h1 h2 => exact ⟨_, _, rfl, .inr (.inl (rdS sub h1)), fun p hp => h _ (upd Hs p _) _ (Ext.laid sub hp) (.lst (.inl upd_same) (dpaMono (same_new (sub.free hp)) _ h2))⟩
  | _ => exact h.elim
theorem cl_tuple : CallR X (.type "tuple") (rCD X (c1 .toTuple)) := callR1 call_tuple_of fun Hs H v d Q sub hd h => by
  cases d with
  | list ds =>
    cases hd with
    | lst h1 h2 => exact ⟨_, _, rfl, .inl ⟨.inl (rdS sub h1), fun p hp => h _ (upd Hs p _) _ (Ext.laid sub hp) (.tup (.inl upd_same) (dpaMono (same_new (sub.free hp)) _ h2))⟩⟩
  | tuple ds =>
    cases hd with
    | tup h1 h2 => exact ⟨_, _, rfl, .inr ⟨.inl (rdS sub h1), h _ Hs H (Ext.refl sub) (.tup h1 h2)⟩⟩
  | _ => exact h.elim
/-! #### sorted -/
theorem all_alike {ds : List PyData} (h : allAlike ds = true) : PySem.W.AllAlike ds := fun d hd d' hd' => List.all_eq_true.mp (List.all_eq_true.mp h d hd) d' hd'
theorem is_sortable {ds : List PyData} (h : sortable ds = true) : PySem.W.Sortable ds := by
  unfold sortable at h
  rw [Bool.or_eq_true] at h
  rcases h with h | h
  · refine .inl fun d hd => ?_
    have := List.all_eq_true.mp h d hd
    split at this
    · exact ⟨_, _, rfl⟩
    · cases this
  · refine .inr fun d hd => ?_
    have := List.all_eq_true.mp h d hd
    split at this
    · cases this
    · cases this
    · rename_i h1 h2
      exact ⟨fun z => h1 z, fun xs z => h2 xs z⟩
theorem each_dd {Hs : Hp} : ∀ {xs : List V} {ds : List PyData} {us : List Value}, DdAll Hs xs ds → Vals xs us → PySem.W.EachIs (fun u d => ∃ v, RelV v u ∧ Dd Hs v d) us ds
  | _, [], _, h, r => by cases h; cases r; exact .nil
  | _, d :: ds, _, h, r => by
    cases h with
    | cons h1 h2 =>
    cases r with
    | cons r1 r2 => exact .cons ⟨_, r1, h1⟩ (each_dd h2 r2)
theorem dd_each {Hs : Hp} : ∀ {ds : List PyData} {us : List Value}, PySem.W.EachIs (fun u d => ∃ v, RelV v u ∧ Dd Hs v d) us ds → ∃ xs, Vals xs us ∧ DdAll Hs xs ds
  | _, _, .nil => ⟨[], .nil, .nil⟩
  | _, _, .cons ⟨v, h1, h2⟩ t => by
    obtain ⟨xs, k1, k2⟩ := dd_each t
    exact ⟨v :: xs, .cons h1 k1, .cons h2 k2⟩
theorem dd_at {Hs : Hp} : ∀ {us : List Value} {ds : List PyData} {i : Nat} {u : Value} {d : PyData}, PySem.W.EachIs (fun u d => ∃ v, RelV v u ∧ Dd Hs v d) us ds → us[i]? = some u → ds[i]? = some d → ∃ v, RelV v u ∧ Dd Hs v d
  | _, _, _, _, _, .nil, h, _ => by simp at h
  | _, _, 0, _, _, .cons q _, h, h2 => by
    simp at h h2
    subst h
    subst h2
    exact q
  | _, _, i + 1, _, _, .cons _ t, h, h2 => dd_at (i := i) t (by simpa using h) (by simpa using h2)
theorem cl_sorted (hu : X.A.units + 64 < cLine) : CallR X (.builtin "sorted") (rCD X (c1 .srt)) := by
  intro pins s σ H xs us Q I rv hq
  obtain ⟨Hs, ds, sub, hd, q⟩ := hq
  match ds, hd, q with
  | [], _, q => exact q.elim
  | _ :: _ :: _, _, q => exact q.elim
  | [d], .cons hd .nil, q =>
    have q : PostG (fun _ _ => False) Hs H (un1 .srt d) okD Q := q
    cases d with
    | list ds =>
      obtain ⟨hc, q⟩ := PostG.when q
      simp only [Bool.and_eq_true] at hc
      obtain ⟨⟨⟨h1, h2⟩, h3⟩, h4⟩ := hc
      cases hd with
      | @lst l ys _ k1 k2 =>
      obtain ⟨u, rfl, ru⟩ := vals1 rv
      cases ru
      obtain ⟨z, its, n, r, e⟩ := rdL I (rdS sub k1)
      have E := each_dd k2 r
      have er : PySem.W.EachIs (fun v b => ∃ as, Reads s.heap v (id b) as) its ds := E.mono fun v d hvd => let ⟨w, r1, r2⟩ := hvd; ddReads I sub r2 r1
      have hL : ds.length ≤ sizeLine := lim_line (of_decide_eq_true h3)
      refine PySem.W.sorted_data (enc := id) ⟨_, e, rfl, n, rfl⟩ E er (by rw [List.map_id]; exact all_alike h1) (by rw [List.map_id]; exact is_sortable h2) hL (fun b hb => ?_) fun out ho hE => ?_
      · have := of_decide_eq_true (List.all_eq_true.mp h4 b hb)
        show X.A.units + 2 + b.depth < cLine
        omega
      · obtain ⟨ws, w1, w2⟩ := dd_each hE
        obtain ⟨ep, he'⟩ := PyProof.Rows.sortedAll_at s.heap its out.toArray
        have hf : H (s.heap.objs.size + 1) = none := I.hok.fresh (Nat.le_succ _)
        refine ⟨.ref _, upd H (s.heap.objs.size + 1) (.lst ws), I.laid (t' := s.toks) (fun _ _ => PyProof.Rows.sortedAll_old) (Nat.le_succ _) ⟨?_, out, ep, w1, he'⟩, rfl, ?_⟩
        · rw [w1.length, ho]; exact hL
        · exact q (.ref _) (upd Hs _ (.lst ws)) _ (Ext.laid sub hf) (.lst (.inl upd_same) (dpaMono (same_new (sub.free hf)) _ w2))
    | _ => exact q.elim
theorem readsAll_of {h : Heap} : ∀ {us : List Value} {ds : List PyData}, PySem.W.EachIs (fun v b => ∃ as, Reads h v b as) us ds → ∃ as, ReadsAll h us ds as
  | _, _, .nil => ⟨_, .nil⟩
  | _, _, .cons ⟨as, r⟩ t => by
    obtain ⟨bs, q⟩ := readsAll_of t
    exact ⟨_, .cons r q⟩
theorem cl_min1 (hc : X.calm = true) (hu : X.A.units + 64 < cLine) : CallR X (.builtin "min") (rCD X (c1 .min1)) := by
  intro pins s σ H xs us Q I rv hq
  obtain ⟨Hs, ds, sub, hd, q⟩ := hq
  match ds, hd, q with
  | [], _, q => exact q.elim
  | _ :: _ :: _, _, q => exact q.elim
  | [d], .cons hd .nil, q =>
    have q : PostG (fun _ _ => False) Hs H (un1 .min1 d) okD Q := q
    cases d with
    | list ds =>
      have q : PostG (fun _ _ => False) Hs H (match asInts ds with
        | some ns => R.of (minI ns) fun m => .ok (.int m)
        | none => R.when (allAlike ds && sortable ds && decide (PyData.depthAll ds ≤ 16)) (R.of (minD ds) fun m => .ok m)) okD Q := q
      cases hb : asInts ds with
      | some bs =>
        rw [hb] at q
        obtain ⟨m, hm, h⟩ := PostG.of q
        cases hd with
        | lst h1 h2 =>
          have e := dd_ints h2 hb
          subst e
          exact cr_min hc pins s σ H _ us Q I rv ⟨_, bs, rfl, .inl (rdS sub h1), by cases bs with | nil => cases hm | cons a r => simp, fun n k1 k2 => by rw [minI_is hm k1 k2]; exact h _ Hs H (Ext.refl sub) (.int _)⟩
      | none =>
        rw [hb] at q
        obtain ⟨hk, q⟩ := PostG.when q
        obtain ⟨m, hm, q⟩ := PostG.of q
        simp only [Bool.and_eq_true] at hk
        obtain ⟨⟨h1, h2⟩, h3⟩ := hk
        have h3 := of_decide_eq_true h3
        cases hd with
        | @lst l ys _ k1 k2 =>
        obtain ⟨u, rfl, ru⟩ := vals1 rv
        cases ru
        obtain ⟨z, its, n, r, e⟩ := rdL I (rdS sub k1)
        have E := each_dd k2 r
        have er : PySem.W.EachIs (fun v b => ∃ as, Reads s.heap v b as) its ds := E.mono fun v d hvd => let ⟨w, r1, r2⟩ := hvd; ddReads I sub r2 r1
        obtain ⟨as, ra⟩ := readsAll_of er
        cases ds with
        | nil => cases hm
        | cons x xs =>
          have hnn : ∀ y ∈ x :: xs, y ≠ .none := fun y hy => by
            rcases is_sortable h2 with w | w
            · obtain ⟨a, b, e⟩ := w y hy
              rw [e]; exact fun z => nomatch z
            · exact (w y hy).1
          refine PySem.W.min_list_data (I.ok.hd hc) ⟨_, e, rfl, n, rfl⟩ (by simpa using ra) ⟨all_alike h1, hnn⟩ (by omega) fun i v h' tk bs hv hr kp => ?_
          have hv' : its[i]? = some v := by simpa using hv
          have hlen := E.length
          have hi : i < (x :: xs).length := by rw [← hlen]; exact (List.getElem?_eq_some_iff.mp hv').1
          obtain ⟨w, rw1, rw2⟩ := dd_at E hv' (List.getElem?_eq_getElem hi)
          have I2 : Inv X pins σ H { s with heap := h', toks := tk } := I.kept kp
          obtain ⟨as2, ra2⟩ := ddReads I2 sub rw2 rw1
          have : (x :: xs)[i] = PySem.W.minD x xs := (PyProof.Rows.reads_det (fun b o e _ => e) hr ra2).1
          cases hm
          refine ⟨w, H, I2, rw1, q w Hs H (Ext.refl sub) ?_⟩
          rw [this] at rw2
          exact rw2
    | _ => exact q.elim
/-! #### isinstance -/
theorem dd_ty {K : PySem.W.Frag} {Hs H : Hp} {v : V} {d : PyData} (sub : Same Hs H) (h : Dd Hs v d) : TyX K H v (.type (tyName d)) := by
  cases d with
  | none => cases h; exact .base .non
  | bool b => cases h; exact .base (.bl b)
  | int b => cases h; exact .base (.int b)
  | str b => cases h; exact .base (.str b)
  | list ds =>
    cases h with
    | lst h1 h2 =>
      rcases rdS sub h1 with h1 | ⟨o, h1⟩
      · exact .base (.lst h1)
      · exact .base (.frz h1)
  | tuple ds =>
    cases h with
    | tup h1 h2 =>
      rcases rdS sub h1 with h1 | ⟨o, h1⟩
      · exact .base (.tup h1)
      · exact .fTuple h1
  | dict _ => cases h
theorem kit_all : (["NoneType", "bool", "int", "str", "list", "tuple"].all fun a => ["int", "bool", "str", "list", "tuple"].all fun T => kitB a T == some (isiB a T)) = true := by decide +kernel
theorem ty_in {d : PyData} (h : (!(tyName d == "dict")) = true) : tyName d ∈ ["NoneType", "bool", "int", "str", "list", "tuple"] := by
  cases d <;> first | (cases h; done) | simp [tyName]
theorem isi_kit {K : PySem.W.Frag} {T : String} {d : PyData} (hT : isiT T = true) (hd : (!(tyName d == "dict")) = true) : PySem.W.kitOne K (.type (tyName d)) (.type T) = some (isiB (tyName d) T) := by
  have h1 := List.all_eq_true.mp kit_all _ (ty_in hd)
  have h2 : T ∈ ["int", "bool", "str", "list", "tuple"] := by
    unfold isiT at hT
    simpa [Bool.or_eq_true, or_assoc] using hT
  exact kit_ty (of_decide_eq_true (by simpa using List.all_eq_true.mp h1 _ h2))
end
end QB
/-! ### calls of built-ins, subscripts, methods: expressions -/
namespace QB
open PySem L2
section
variable {X : Cx} {W : WX} {a b c : Expr} {ma mb mc : Env → R PyData} {pos : Pos}
/-- what a context says of a built-in's name -/
def BltB (X : Cx) (x : Str) (id : String) : Prop := Gl X x ∧ X.mg x = none ∧ bootBuiltins x = some (.builtin id) ∧ x ≠ "__name__" ∧ (x == ("__debug__" : Str)) = false
def BltT (X : Cx) (x : Str) (T : String) : Prop := Gl X x ∧ X.mg x = none ∧ bootBuiltins x = some (.type T) ∧ x ≠ "__name__" ∧ (x == ("__debug__" : Str)) = false
theorem un1_noexc (u : Un) (d : PyData) (x : Str) : un1 u d ≠ .exc x := by
  intro h
  have wn : ∀ {c : Bool} {r : R PyData}, (∀ x, r ≠ .exc x) → R.when c r ≠ .exc x := fun h => when_noexc h
  have on : ∀ {α : Type} {o : Option α} {f : α → R PyData}, (∀ a x, f a ≠ .exc x) → R.of o f ≠ .exc x := fun {α o f} h z => by
    cases o with
    | none => cases z
    | some a => exact h a x z
  have ok : ∀ (e : PyData) (x : Str), (R.ok e : R PyData) ≠ .exc x := fun _ _ z => by cases z
  have on2 : ∀ {α : Type} {o : Option α} {f : α → R PyData}, (∀ a x, f a ≠ .exc x) → ∀ x, R.of o f ≠ .exc x := fun {α o f} h x z => by
    cases o with
    | none => cases z
    | some a => exact h a x z
  have sr : ∀ ds x, srtD ds ≠ .exc x := fun ds x => when_noexc (ok _)
  cases u <;> cases d <;> first
    | (cases h; done)
    | exact wn (ok _) h
    | exact on (fun _ => ok _) h
    | exact wn (fun x => by intro z; revert z; cases PySem.intText? _ <;> intro z <;> cases z) h
    | exact on (fun ns x => on2 (fun _ => ok _) x) h
    | exact sr _ _ h
    | exact wn (sr _) h
    | exact on (fun ds x => when_noexc (sr _)) h
    | exact on (fun ds x => when_noexc (ok _)) h
    | (rename_i ds
       have h : (match asInts ds with
         | some ns => R.of (minI ns) fun m => .ok (.int m)
         | none => R.when (allAlike ds && sortable ds && decide (PyData.depthAll ds ≤ 16)) (R.of (minD ds) fun m => .ok m)) = R.exc x := h
       cases q : asInts ds with
       | some ns => rw [q] at h; exact on (fun _ => ok _) h
       | none => rw [q] at h; exact wn (fun x => on2 (fun _ => ok _) x) h)
theorem bi2_noexc (b : Bi) (d e : PyData) (x : Str) : bi2 b d e ≠ .exc x := by
  intro h
  have wn : ∀ {c : Bool} {r : R PyData}, (∀ x, r ≠ .exc x) → R.when c r ≠ .exc x := fun h => when_noexc h
  have ok : ∀ (e : PyData) (x : Str), (R.ok e : R PyData) ≠ .exc x := fun _ _ z => by cases z
  have on : ∀ {α : Type} {o : Option α} {f : α → R PyData}, (∀ a x, f a ≠ .exc x) → ∀ x, R.of o f ≠ .exc x := fun {α o f} h x z => by
    cases o with
    | none => cases z
    | some a => exact h a x z
  unfold bi2 at h
  split at h <;> first
    | (cases h; done)
    | exact wn (ok _) h
    | exact on (fun a x => when_noexc (ok _)) _ h
    | exact on (fun _ => ok _) _ h
    | exact wn (on fun _ => ok _) h
    | exact when_noexc (fun x => when_noexc (ok _)) h
theorem post_any {r : R PyData} {Hs H : Hp} {Q : VK} {E E' : Str → Hp → Prop} (h : PostG E Hs H r okD Q) (n : ∀ c, r ≠ .exc c) : PostG E' Hs H r okD Q := h.firm n
theorem de_callB {x : Str} {id : String} {f : List PyData → R PyData} {p : Pos} {e : Expr} {es : List Expr} {ms : Env → R (List PyData)} (hb : BltB X x id) (hr : CallR X (.builtin id) (rCD X f)) (hn : ∀ ds c, f ds ≠ .exc c) (hs : (e :: es).all noStar = true) (ha : DA X W (e :: es) ms) :
    DE X W (.Call (.Name x p) (e :: es) [] pos) (fun ρ => (ms ρ).bind f) := by
  obtain ⟨t, pa, q⟩ := ha
  rw [List.all_cons, Bool.and_eq_true] at hs
  refine ⟨_, pe_callB hr hb.1 hb.2.1 hb.2.2.1 pa hb.2.2.2.1 hb.2.2.2.2 (star_cons hs.1) (noplain hs.2), fun ρ σ Hs H Q r h => ?_⟩
  exact q ρ σ Hs H _ r (h.seq fun ds vs Hs1 H1 _ e1 o1 h1 => ⟨Hs1, ds, e1.sub, o1, h1.firm (hn ds)⟩)
theorem de_callT {x : Str} {T : String} {f : List PyData → R PyData} {p : Pos} {e : Expr} {es : List Expr} {ms : Env → R (List PyData)} (hb : BltT X x T) (hr : CallR X (.type T) (rCD X f)) (hn : ∀ ds c, f ds ≠ .exc c) (hs : (e :: es).all noStar = true) (ha : DA X W (e :: es) ms) :
    DE X W (.Call (.Name x p) (e :: es) [] pos) (fun ρ => (ms ρ).bind f) := by
  obtain ⟨t, pa, q⟩ := ha
  rw [List.all_cons, Bool.and_eq_true] at hs
  refine ⟨_, pe_callTy hr hb.1 hb.2.1 hb.2.2.1 pa hb.2.2.2.1 hb.2.2.2.2 (star_cons hs.1) (noplain hs.2), fun ρ σ Hs H Q r h => ?_⟩
  exact q ρ σ Hs H _ r (h.seq fun ds vs Hs1 H1 _ e1 o1 h1 => ⟨Hs1, ds, e1.sub, o1, h1.firm (hn ds)⟩)
theorem c1_noexc (u : Un) (ds : List PyData) (x : Str) : c1 u ds ≠ .exc x := by
  unfold c1
  split
  · exact un1_noexc u _ x
  · intro z; cases z
theorem c2_noexc (b : Bi) (ds : List PyData) (x : Str) : c2 b ds ≠ .exc x := by
  unfold c2
  split
  · exact bi2_noexc b _ _ x
  · intro z; cases z
theorem bind1 (u : Un) (r : R PyData) : ((r.bind fun d => (R.ok [] : R (List PyData)).bind fun ds => .ok (d :: ds)).bind (c1 u)) = r.bind fun d => un1 u d := by cases r <;> rfl
theorem bind2 (b : Bi) (r r' : R PyData) : ((r.bind fun d => (r'.bind fun e => (R.ok [] : R (List PyData)).bind fun ds => .ok (e :: ds)).bind fun ds => .ok (d :: ds)).bind (c2 b)) = r.bind fun d => r'.bind fun e => bi2 b d e := by cases r <;> cases r' <;> rfl
theorem DE.congr {e : Expr} {m m' : Env → R PyData} (h : DE X W e m) (hm : ∀ ρ, m ρ = m' ρ) : DE X W e m' := by
  have : m = m' := funext hm
  rw [← this]; exact h
theorem de_un1B {x : Str} {id : String} {u : Un} {p : Pos} (hb : BltB X x id) (hr : CallR X (.builtin id) (rCD X (c1 u))) (hs : noStar a = true) (ha : DE X W a ma) : DE X W (.Call (.Name x p) [a] [] pos) (fun ρ => (ma ρ).bind fun d => un1 u d) :=
  (de_callB hb hr (c1_noexc u) (by simp [hs]) (da_cons hs ha da_nil)).congr fun ρ => bind1 u (ma ρ)
theorem de_un1T {x : Str} {T : String} {u : Un} {p : Pos} (hb : BltT X x T) (hr : CallR X (.type T) (rCD X (c1 u))) (hs : noStar a = true) (ha : DE X W a ma) : DE X W (.Call (.Name x p) [a] [] pos) (fun ρ => (ma ρ).bind fun d => un1 u d) :=
  (de_callT hb hr (c1_noexc u) (by simp [hs]) (da_cons hs ha da_nil)).congr fun ρ => bind1 u (ma ρ)
theorem de_bi2B {x : Str} {id : String} {o : Bi} {p : Pos} (hb : BltB X x id) (hr : CallR X (.builtin id) (rCD X (c2 o))) (hs : noStar a = true) (hs2 : noStar b = true) (ha : DE X W a ma) (hb2 : DE X W b mb) :
    DE X W (.Call (.Name x p) [a, b] [] pos) (fun ρ => (ma ρ).bind fun d => (mb ρ).bind fun e => bi2 o d e) :=
  (de_callB hb hr (c2_noexc o) (by simp [hs, hs2]) (da_cons hs ha (da_cons hs2 hb2 da_nil))).congr fun ρ => bind2 o (ma ρ) (mb ρ)
/-! #### isinstance -/
theorem de_isi {x y : Str} {T : String} {p p2 : Pos} (hb : BltB X x "isinstance") (hT : BltT X y T) (hs : noStar a = true) (ha : DE X W a ma) : DE X W (.Call (.Name x p) [a, .Name y p2] [] pos) (fun ρ => (ma ρ).bind fun d => un1 (.isi T) d) := by
  obtain ⟨ta, pa, qa⟩ := ha
  have pt : PE X (.Name y p2) (tC (.ty T)) := pe_bltn hT.1 hT.2.1 hT.2.2.1 rfl hT.2.2.2.1 hT.2.2.2.2
  refine ⟨_, pe_callB call_isi hb.1 hb.2.1 hb.2.2.1 (pa_cons pa (pa_cons pt pa_nil rfl) (star_cons hs)) hb.2.2.2.1 hb.2.2.2.2 (star_cons hs) rfl, fun ρ σ Hs H Q r h => ?_⟩
  refine qa ρ σ Hs H _ r (h.seq fun d v Hs1 H1 _ e1 o1 h1 => ?_)
  have h1 : PostG (Exc X W σ) Hs1 H1 (isiD T d) okD Q := by cases d <;> exact h1
  obtain ⟨hc, h1⟩ := PostG.when h1
  rw [Bool.and_eq_true] at hc
  exact ⟨v, .ty T, .type (tyName d), .type T, isiB (tyName d) T, rfl, .ty T, dd_ty e1.sub o1, isi_kit hc.1 hc.2, h1 _ Hs1 H1 (Ext.refl e1.sub) (.bl _)⟩
/-! #### subscripts -/
def plainIxB : Expr → Bool
  | .Slice _ _ _ _ => false
  | _ => true
theorem plainIx_of {e : Expr} (h : plainIxB e = true) : PlainIx e := by
  cases e <;> first | (intro o i; rfl) | cases h
theorem atI_dd {Hs : Hp} {xs : List V} {ds : List PyData} {i : Int} {d : PyData} (h : DdAll Hs xs ds) (e : atI ds i = some d) : ∃ v, atI xs i = some v ∧ Dd Hs v d := by
  unfold atI at e ⊢
  rw [dpaLen h]
  cases q : ixN ds.length i with
  | none => rw [q] at e; cases e
  | some j => rw [q] at e; exact dpaGet h e
theorem ix_D : IxR X (rD X (bi2 .idx)) := by
  intro value slice pins s σ H x y v u Q I rx ry h hs
  obtain ⟨Hs, d, e, sub, hd, he, h⟩ := h
  cases e with
  | int i =>
    cases he
    cases d with
    | list ds =>
      obtain ⟨z, hz, h⟩ := PostG.of h
      cases hd with
      | lst h1 h2 =>
        obtain ⟨w, w1, w2⟩ := atI_dd h2 hz
        exact ix_list value slice pins s σ H _ _ v u Q I rx ry ⟨_, _, i, w, rfl, rfl, .inl (rdS sub h1), w1, h _ Hs H (Ext.refl sub) w2⟩ hs
    | tuple ds =>
      obtain ⟨z, hz, h⟩ := PostG.of h
      cases hd with
      | tup h1 h2 =>
        obtain ⟨w, w1, w2⟩ := atI_dd h2 hz
        exact ix_tup value slice pins s σ H _ _ v u Q I rx ry ⟨_, _, i, w, rfl, rfl, .inl (rdS sub h1), w1, h _ Hs H (Ext.refl sub) w2⟩ hs
    | str z =>
      obtain ⟨hz, h⟩ := PostG.when h
      obtain ⟨c, hc, h⟩ := PostG.of h
      cases hd with
      | str _ ho =>
        have hm : c ∈ z.cps.toList := by
          unfold atI at hc
          cases q : ixN z.cps.toList.length i with
          | none => rw [q] at hc; cases hc
          | some j => rw [q] at hc; exact List.mem_of_getElem? hc
        exact ix_str value slice pins s σ H _ _ v u Q I rx ry ⟨z, i, c, rfl, rfl, lim_line (of_decide_eq_true hz), hc, h _ Hs H (Ext.refl sub) (.str _ (strOk_one ho hm))⟩ hs
    | _ => exact h.elim
  | _ => cases d <;> exact h.elim
theorem de_idx (hs : plainIxB b = true) (ha : DE X W a ma) (hb : DE X W b mb) : DE X W (.Subscript a b pos) (fun ρ => (ma ρ).bind fun d => (mb ρ).bind fun e => bi2 .idx d e) := by
  obtain ⟨ta, pa, qa⟩ := ha
  obtain ⟨tb, pb, qb⟩ := hb
  refine ⟨_, pe_ix ix_D pa pb (plainIx_of hs), fun ρ σ Hs H Q r h => ?_⟩
  refine qa ρ σ Hs H _ r (h.seq fun d x Hs1 H1 _ e1 o1 h1 => ?_)
  refine qb ρ σ Hs1 H1 _ (r.ext e1) (h1.seq fun e y Hs2 H2 _ e2 o2 h2 => ?_)
  exact ⟨Hs2, d, e, e2.sub, dpMono e2.s d o1, o2, h2.firm (bi2_noexc _ d e)⟩
/-! #### slices -/
theorem sIx_some (n d : Nat) (i : Int) : HT.sIx n d (some i) = sixN n i := by
  show (if i < 0 then (i + (n : Int)).toNat else min i.toNat n) = sixN n i
  unfold sixN
  by_cases h : i < 0
  · rw [if_pos h, if_pos h, Int.add_comm]
  · rw [if_neg h, if_neg h]
theorem sixN_le (n : Nat) (i : Int) : sixN n i ≤ n := by
  unfold sixN
  split
  · omega
  · exact Nat.min_le_right _ _
def rSlD (X : Cx) : V → Option Int → Option Int → Hp → VK → Prop := fun x lo hi H Q => ∃ Hs d, Same Hs H ∧ Dd Hs x d ∧
  ((∃ i, lo = some i ∧ hi = none ∧ PostG (fun _ _ => False) Hs H (bi2 .sfrom d (.int i)) okD Q) ∨ (∃ i, lo = none ∧ hi = some i ∧ PostG (fun _ _ => False) Hs H (bi2 .sto d (.int i)) okD Q))
theorem cutV_from (xs : List V) (i : Int) : cutV xs (some i) none = xs.drop (sixN xs.length i) := by
  unfold cutV
  rw [sIx_some, HT.sIx_none]
  exact List.take_of_length_le (by rw [List.length_drop]; exact Nat.le_refl _)
theorem cutV_to (xs : List V) (i : Int) : cutV xs none (some i) = xs.take (sixN xs.length i) := by
  unfold cutV
  rw [sIx_some, HT.sIx_none, List.drop_zero, Nat.sub_zero]
theorem cutS_from (z : Str) (i : Int) : cutS z (some i) none = ⟨(z.cps.toList.drop (sixN z.length i)).toArray⟩ := by
  unfold cutS
  rw [sIx_some, HT.sIx_none]
  have h : z.cps.toList.length = z.length := by simp [Str.length]
  rw [List.take_of_length_le (by rw [List.length_drop, h]; exact Nat.le_refl _)]
theorem cutS_to (z : Str) (i : Int) : cutS z none (some i) = ⟨(z.cps.toList.take (sixN z.length i)).toArray⟩ := by
  unfold cutS
  rw [sIx_some, HT.sIx_none, List.drop_zero, Nat.sub_zero]
theorem strOk_sub {z : Str} {l : List Nat} (h : PyData.strOk z = true) (hl : ∀ c ∈ l, c ∈ z.cps.toList) : PyData.strOk ⟨l.toArray⟩ = true := strOk_mk fun c hc => strOk_list.mp h c (hl c hc)
theorem sl_D : SlR X (rSlD X) := by
  intro pins s σ H x v vl vu lo hi sl Q I rx hs pl pu h
  obtain ⟨Hs, d, sub, hd, h⟩ := h
  rcases h with ⟨i, rfl, rfl, h⟩ | ⟨i, rfl, rfl, h⟩
  · cases d with
    | list ds =>
      cases hd with
      | @lst l xs _ h1 h2 =>
        refine sl_list pins s σ H _ v vl vu _ _ sl Q I rx hs pl pu ⟨l, xs, rfl, .inl (rdS sub h1), fun p hp => ?_⟩
        rw [cutV_from, dpaLen h2]
        exact h (.ref p) (upd Hs p _) _ (Ext.laid sub hp) (.lst (.inl upd_same) (dpaMono (same_new (sub.free hp)) _ (dpaDrop _ h2)))
    | tuple ds =>
      cases hd with
      | @tup l xs _ h1 h2 =>
        refine sl_tupA pins s σ H _ v vl vu _ _ sl Q I rx hs pl pu ⟨l, xs, rfl, .inl (rdS sub h1), fun hw => ?_, fun _ p hp => ?_⟩
        · rw [sIx_some, dpaLen h2] at hw
          have h : PostG (fun _ _ => False) Hs H (.ok (.tuple (ds.drop (sixN ds.length i)))) okD Q := h
          rw [hw.1, List.drop_zero] at h
          exact h (.ref l) Hs H (Ext.refl sub) (.tup h1 h2)
        · rw [cutV_from, dpaLen h2]
          exact h (.ref p) (upd Hs p _) _ (Ext.laid sub hp) (.tup (.inl upd_same) (dpaMono (same_new (sub.free hp)) _ (dpaDrop _ h2)))
    | str z =>
      obtain ⟨hz, h⟩ := PostG.when h
      cases hd with
      | str _ ho =>
        refine sl_str pins s σ H _ v vl vu _ _ sl Q I rx hs pl pu ⟨z, rfl, lim_line (of_decide_eq_true hz), ?_⟩
        rw [cutS_from]
        exact h _ Hs H (Ext.refl sub) (.str _ (strOk_sub ho fun c hc => List.mem_of_mem_drop hc))
    | _ => exact h.elim
  · cases d with
    | list ds =>
      cases hd with
      | @lst l xs _ h1 h2 =>
        refine sl_list pins s σ H _ v vl vu _ _ sl Q I rx hs pl pu ⟨l, xs, rfl, .inl (rdS sub h1), fun p hp => ?_⟩
        rw [cutV_to, dpaLen h2]
        exact h (.ref p) (upd Hs p _) _ (Ext.laid sub hp) (.lst (.inl upd_same) (dpaMono (same_new (sub.free hp)) _ (dpaTake _ h2)))
    | tuple ds =>
      cases hd with
      | @tup l xs _ h1 h2 =>
        refine sl_tupA pins s σ H _ v vl vu _ _ sl Q I rx hs pl pu ⟨l, xs, rfl, .inl (rdS sub h1), fun hw => ?_, fun _ p hp => ?_⟩
        · rw [sIx_some, dpaLen h2] at hw
          have h : PostG (fun _ _ => False) Hs H (.ok (.tuple (ds.take (sixN ds.length i)))) okD Q := h
          rw [hw.2, List.take_length] at h
          exact h (.ref l) Hs H (Ext.refl sub) (.tup h1 h2)
        · rw [cutV_to, dpaLen h2]
          exact h (.ref p) (upd Hs p _) _ (Ext.laid sub hp) (.tup (.inl upd_same) (dpaMono (same_new (sub.free hp)) _ (dpaTake _ h2)))
    | str z =>
      obtain ⟨hz, h⟩ := PostG.when h
      cases hd with
      | str _ ho =>
        refine sl_str pins s σ H _ v vl vu _ _ sl Q I rx hs pl pu ⟨z, rfl, lim_line (of_decide_eq_true hz), ?_⟩
        rw [cutS_to]
        exact h _ Hs H (Ext.refl sub) (.str _ (strOk_sub ho fun c hc => List.mem_of_mem_take hc))
    | _ => exact h.elim
theorem de_sfrom {p2 : Pos} (ha : DE X W a ma) (hb : DE X W b mb) : DE X W (.Subscript a (.Slice (some b) none none p2) pos) (fun ρ => (ma ρ).bind fun d => (mb ρ).bind fun e => bi2 .sfrom d e) := by
  obtain ⟨ta, pa, qa⟩ := ha
  obtain ⟨tb, pb, qb⟩ := hb
  refine ⟨_, pe_slice sl_D pa (po_some pb) po_none, fun ρ σ Hs H Q r h => ?_⟩
  refine qa ρ σ Hs H _ r (h.seq fun d x Hs1 H1 _ e1 o1 h1 => ?_)
  refine qb ρ σ Hs1 H1 _ (r.ext e1) (h1.seq fun e y Hs2 H2 _ e2 o2 h2 => ?_)
  cases e with
  | int i => cases o2; exact ⟨i, rfl, Hs2, d, e2.sub, dpMono e2.s d o1, .inl ⟨i, rfl, rfl, h2.firm (bi2_noexc _ d _)⟩⟩
  | _ => cases d <;> exact h2.elim
theorem de_sto {p2 : Pos} (ha : DE X W a ma) (hb : DE X W b mb) : DE X W (.Subscript a (.Slice none (some b) none p2) pos) (fun ρ => (ma ρ).bind fun d => (mb ρ).bind fun e => bi2 .sto d e) := by
  obtain ⟨ta, pa, qa⟩ := ha
  obtain ⟨tb, pb, qb⟩ := hb
  refine ⟨_, pe_slice sl_D pa po_none (po_some pb), fun ρ σ Hs H Q r h => ?_⟩
  refine qa ρ σ Hs H _ r (h.seq fun d x Hs1 H1 _ e1 o1 h1 => ?_)
  refine qb ρ σ Hs1 H1 _ (r.ext e1) (h1.seq fun e y Hs2 H2 _ e2 o2 h2 => ?_)
  cases e with
  | int i => cases o2; exact ⟨i, rfl, Hs2, d, e2.sub, dpMono e2.s d o1, .inr ⟨i, rfl, rfl, h2.firm (bi2_noexc _ d _)⟩⟩
  | _ => cases d <;> exact h2.elim
theorem de_neg (ha : DE X W a ma) : DE X W (.UnaryOp .USub a pos) (fun ρ => (ma ρ).bind fun d => un1 .neg d) := by
  obtain ⟨ta, pa, qa⟩ := ha
  refine ⟨_, pe_un un_neg pa, fun ρ σ Hs H Q r h => ?_⟩
  refine qa ρ σ Hs H _ r (h.seq fun d x Hs1 H1 _ e1 o1 h1 => ?_)
  cases d with
  | int i => cases o1; exact ⟨i, rfl, h1 _ Hs1 H1 (Ext.refl e1.sub) (.int _)⟩
  | _ => exact h1.elim
/-! #### methods -/
def plainBase : Expr → Bool
  | .Call _ _ _ _ => false
  | _ => true
theorem base_of {e : Expr} {n : Str} {env : PySem.Env} (h : plainBase e = true) : attributeBase e n env (eval e env) = eval e env := by
  cases e <;> first | rfl | cases h
theorem few_of {e : Expr} {env : PySem.Env} (h : noStar e = true) : ((backTo pos (starEach [e] env)).all (fun x => !x.1) && (backToKw pos (keywordEach [] env)).all (fun x => x.1.isSome)
      && decide (([e] : List Expr).length + ([] : List Keyword).length + (if ([] : List Keyword).isEmpty then 0 else 1) < 30)) = true := by
  cases e <;> first | rfl | cases h
theorem strOk_empty : PyData.strOk Str.empty = true := by decide +kernel
theorem strOk_glued {g : Str} {ys : List Str} (hg : PyData.strOk g = true) (h : ∀ y ∈ ys, PyData.strOk y = true) : PyData.strOk (PySem.Txt.join g ys) = true := by
  unfold PySem.Txt.join Builtin.Str.glued
  have step : ∀ (l : List Str) (acc : Array Nat), acc.all (· < 0x110000) = true → (∀ y ∈ l, PyData.strOk y = true) → (l.foldl (fun acc p => acc ++ g.cps ++ p.cps) acc).all (· < 0x110000) = true := by
    intro l
    induction l with
    | nil => intro acc h _; exact h
    | cons p l ih =>
      intro acc ha hl
      refine ih _ ?_ fun y hy => hl y (List.mem_cons_of_mem _ hy)
      rw [Array.all_append, Array.all_append, ha]
      have h1 : g.cps.all (· < 0x110000) = true := hg
      have h2 : p.cps.all (· < 0x110000) = true := hl p (by simp)
      rw [h1, h2]; rfl
  refine step _ _ ?_ fun y hy => h y (List.mem_of_mem_drop hy)
  cases ys with
  | nil => exact strOk_empty
  | cons y ys => exact h y (by simp)
theorem de_meth {apos : Pos} {name : Str} {T id : String} {o : Bi} {r : V → List V → Hp → VK → Prop} (PA : PlainAttrs T) (SL : Slot T name id) (TY : typeOf (.builtin id) = pure (.type "method_descriptor")) (hm : MtR X id r)
    (hty : ∀ (Hs H : Hp) (v : V) (d : PyData), Same Hs H → Dd Hs v d → rcv o d = true → tyV X.K T v H)
    (hr : ∀ (Hs H : Hp) (x y : V) (d e : PyData) (Q : VK), Same Hs H → Dd Hs x d → Dd Hs y e → PostG (fun _ _ => False) Hs H (bi2 o d e) okD Q → r x [y] H Q)
    (hbs : plainBase a = true) (hln : (apos.endLine == pos.line) = true) (hs : noStar b = true) (ha : DE X W a ma) (hb : DE X W b mb) :
    DE X W (.Call (.Attribute a name apos) [b] [] pos) (fun ρ => (ma ρ).bind fun d => R.when (rcv o d) ((mb ρ).bind fun e => bi2 o d e)) := by
  obtain ⟨ta, pa, qa⟩ := ha
  obtain ⟨tb, pb, qb⟩ := hb
  refine ⟨_, pe_bm PA SL TY hm pa (pa_cons pb pa_nil (star_cons hs)) (base_of hbs) (few_of hs) hln (star_cons hs) rfl, fun ρ σ Hs H Q r h => ?_⟩
  refine qa ρ σ Hs H _ r (h.seq fun d x Hs1 H1 _ e1 o1 h1 => ?_)
  obtain ⟨hc, h1⟩ := PostG.when h1
  refine ⟨hty Hs1 H1 x d e1.sub o1 hc, ?_⟩
  refine qb ρ σ Hs1 H1 _ (r.ext e1) (h1.seq fun e y Hs2 H2 _ e2 o2 h2 => ?_)
  exact hr Hs2 H2 x y d e Q e2.sub (dpMono e2.s d o1) o2 (h2.firm (bi2_noexc _ d e))
theorem str_ty {K : PySem.W.Frag} {Hs H : Hp} {v : V} {z : Str} (h : Dd Hs v (.str z)) : tyV K "str" v H := by cases h; exact rfl
theorem de_join {apos : Pos} (hbs : plainBase a = true) (hln : (apos.endLine == pos.line) = true) (hs : noStar b = true) (ha : DE X W a ma) (hb : DE X W b mb) :
    DE X W (.Call (.Attribute a "join" apos) [b] [] pos) (fun ρ => (ma ρ).bind fun d => R.when (rcv .join d) ((mb ρ).bind fun e => bi2 .join d e)) :=
  de_meth PySem.F.plainAttrs_str PySem.F.slot_str_join PySem.F.type_str_join mt_join (fun Hs H v d sub hd hc => by cases d <;> first | exact str_ty hd | cases hc) (fun Hs H x y d e Q sub hd he h => by
    cases d with
    | str z =>
      cases e with
      | list ds =>
        obtain ⟨ys, hy, h⟩ := PostG.of h
        obtain ⟨hz, h⟩ := PostG.when h
        cases hd with
        | str _ ho =>
        cases he with
        | lst k1 k2 =>
          obtain ⟨e3, e4⟩ := dd_strs k2 hy
          subst e3
          exact ⟨z, _, ys, rfl, rfl, .inl (.inl (rdS sub k1)), Nat.le_trans (of_decide_eq_true hz) (by decide), h _ Hs H (Ext.refl sub) (.str _ (strOk_glued ho e4))⟩
      | _ => exact h.elim
    | _ => exact h.elim) hbs hln hs ha hb
theorem sub_mem {z : Str} {i j : Nat} : ∀ c ∈ (Builtin.Str.strSub z i j).cps.toList, c ∈ z.cps.toList := by
  intro c hc
  unfold Builtin.Str.strSub at hc
  simp at hc
  exact List.mem_of_mem_drop (List.mem_of_mem_take hc)
theorem strOk_strSub {z : Str} {i j : Nat} (h : PyData.strOk z = true) : PyData.strOk (Builtin.Str.strSub z i j) = true := strOk_list.mpr fun c hc => strOk_list.mp h c (sub_mem c hc)
theorem de_part {apos : Pos} (hbs : plainBase a = true) (hln : (apos.endLine == pos.line) = true) (hs : noStar b = true) (ha : DE X W a ma) (hb : DE X W b mb) :
    DE X W (.Call (.Attribute a "partition" apos) [b] [] pos) (fun ρ => (ma ρ).bind fun d => R.when (rcv .part d) ((mb ρ).bind fun e => bi2 .part d e)) :=
  de_meth PySem.F.plainAttrs_str PySem.F.slot_str_partition PySem.F.type_str_partition mt_partition (fun Hs H v d sub hd hc => by cases d <;> first | exact str_ty hd | cases hc) (fun Hs H x y d e Q sub hd he h => by
    cases d with
    | str z =>
      cases e with
      | str w =>
        obtain ⟨hz, h⟩ := PostG.when h
        rw [Bool.and_eq_true] at hz
        cases hd with
        | str _ ho =>
        cases he with
        | str _ hw =>
          refine ⟨z, w, rfl, rfl, by simpa using hz.1, lim_line (of_decide_eq_true hz.2), fun p hp => ?_⟩
          refine h (.ref p) (upd Hs p _) _ (Ext.laid sub hp) (.tup (.inl upd_same) ?_)
          have o1 : PyData.strOk (PySem.Txt.partition z w).1 = true := by unfold PySem.Txt.partition; split; exact strOk_strSub ho; exact ho
          have o2 : PyData.strOk (PySem.Txt.partition z w).2.1 = true := by unfold PySem.Txt.partition; split; exact hw; exact strOk_empty
          have o3 : PyData.strOk (PySem.Txt.partition z w).2.2 = true := by unfold PySem.Txt.partition; split; exact strOk_strSub ho; exact strOk_empty
          exact .cons (.str _ o1) (.cons (.str _ o2) (.cons (.str _ o3) .nil))
      | _ => exact h.elim
    | _ => exact h.elim) hbs hln hs ha hb
end
end QB
/-! ### what is walked -/
namespace QB
open PySem L2
/-- a thing that is walked: a list, a tuple, a text -/
inductive Sd where
  | lst (a : Addr) | tup (a : Addr) | str (z : Str) (t : Tok)
def Sd.val : Sd → Value
  | .lst a => .ref a
  | .tup a => .ref a
  | .str z t => .str z t
def Sd.obj : Sd → Obj
  | .lst a => { cls := .type "list_iterator", data := .fields #[.ref a, .int 0 0] }
  | .tup a => { cls := .type "tuple_iterator", data := .fields #[.ref a, .int 0 0] }
  | .str z t => { cls := .type (strIterType z), data := .fields #[.str z t, .int 0 0] }
def Sd.tn (S : Sd) (it : Addr) (i : Nat) (h : Heap) : Prop := match S with
  | .lst a => h.IsListIter it a i
  | .tup a => h.IsTupleIter it a i
  | .str z t => h.IsStrIter it (strIterType z) z t i
abbrev signs (z : Str) : List V := z.cps.toList.map fun c => V.str ⟨#[c]⟩
def Sd.at (S : Sd) (H : Hp) (xs : List V) : Prop := match S with
  | .lst a => Rd H a (.lst xs)
  | .tup a => Rd H a (.tup xs)
  | .str z _ => xs = signs z
def Sd.fp : Sd → List Addr
  | .lst a => [a]
  | .tup a => [a]
  | .str _ _ => []
theorem rd_inj {H : Hp} {a : Addr} {u w : HO} (h : Rd H a u) (k : Rd H a w) (hu : ∀ o x, u ≠ .frz o x) (hw : ∀ o x, w ≠ .frz o x) : u = w := by
  rcases h with h | ⟨o, h⟩ <;> rcases k with k | ⟨o', k⟩ <;> rw [h] at k
  · exact Option.some.inj k
  · exact absurd (Option.some.inj k) (hu _ _)
  · exact absurd (Option.some.inj k).symm (hw _ _)
  · injection Option.some.inj k
theorem Sd.inj {S : Sd} {H : Hp} {xs ys : List V} (h : S.at H xs) (k : S.at H ys) : xs = ys := by
  cases S with
  | lst a => injection rd_inj h k (fun _ _ z => by cases z) (fun _ _ z => by cases z)
  | tup a => injection rd_inj h k (fun _ _ z => by cases z) (fun _ _ z => by cases z)
  | str z t => exact Eq.trans h (Eq.symm k)
theorem Sd.mono {S : Sd} {H H' : Hp} {xs : List V} (e : Same H H') (h : S.at H xs) : S.at H' xs := by
  cases S with
  | lst a => exact rdS e h
  | tup a => exact rdS e h
  | str z t => exact h
theorem Sd.tracked {S : Sd} {H : Hp} {xs : List V} (h : S.at H xs) : ∀ b ∈ S.fp, H b ≠ none := by
  intro b hb
  cases S with
  | lst a =>
    simp [Sd.fp] at hb; subst hb
    rcases h with h | ⟨o, h⟩ <;> rw [h] <;> simp
  | tup a =>
    simp [Sd.fp] at hb; subst hb
    rcases h with h | ⟨o, h⟩ <;> rw [h] <;> simp
  | str z t => simp [Sd.fp] at hb
theorem Sd.start {S : Sd} {h : Heap} {it : Addr} (e : h.get? it = some S.obj) : S.tn it 0 h := by
  cases S with
  | lst a => exact ⟨_, e, rfl, rfl⟩
  | tup a => exact ⟨_, e, rfl, rfl⟩
  | str z t => exact ⟨_, e, rfl, rfl⟩
theorem Sd.keep {S : Sd} {h h' : Heap} {it : Addr} {i : Nat} (t : S.tn it i h) (k : ∀ o, h.get? it = some o → h'.get? it = some o) : S.tn it i h' := by
  cases S with
  | lst a => obtain ⟨o, e, r⟩ := t; exact ⟨o, k o e, r⟩
  | tup a => obtain ⟨o, e, r⟩ := t; exact ⟨o, k o e, r⟩
  | str z w => obtain ⟨o, e, r⟩ := t; exact ⟨o, k o e, r⟩
theorem Sd.there {S : Sd} {h : Heap} {it : Addr} {i : Nat} (t : S.tn it i h) : ∃ o, h.get? it = some o ∧ ∀ v, o.data ≠ .cell v := by
  cases S with
  | lst a => obtain ⟨o, e, c, d⟩ := t; exact ⟨o, e, fun v z => by rw [d] at z; cases z⟩
  | tup a => obtain ⟨o, e, c, d⟩ := t; exact ⟨o, e, fun v z => by rw [d] at z; cases z⟩
  | str z w => obtain ⟨o, e, c, d⟩ := t; exact ⟨o, e, fun v z => by rw [d] at z; cases z⟩
theorem get_vals {xs : List V} {us : List Value} {i : Nat} {u : Value} (r : Vals xs us) (h : us[i]? = some u) : ∃ x, xs[i]? = some x ∧ RelV x u := by
  have hi : i < xs.length := by rw [r.length]; exact (List.getElem?_eq_some_iff.mp h).1
  obtain ⟨w, h1, h2⟩ := r.get (List.getElem?_eq_getElem hi)
  rw [h] at h1; cases h1
  exact ⟨_, List.getElem?_eq_getElem hi, h2⟩
section
variable {X : Cx} {pins : List (Addr × Obj)} {σ : St} {H : Hp} {s : Shared}
theorem rdT {a : Addr} {xs : List V} (I : Inv X pins σ H s) (h : Rd H a (.tup xs)) : ∃ its : List Value, Vals xs its ∧ PyProof.Rows.IsTup s.heap a its.toArray := by
  obtain ⟨_, its, r, e⟩ := h.ok I.hok
  exact ⟨its, r, e⟩
theorem Sd.draws {S : Sd} {xs : List V} {A : Around} {it : Addr} (I : Inv X pins σ H s) (hat : S.at H xs) (hh : A.handled = none) (hne : it ∉ S.fp) :
    ∃ (St : Nat → Heap → Prop) (Pr : Nat → Value → Prop), Draws X.prog X.w A it (it :: S.fp) xs.length Pr St ∧
      (∀ i h, (∀ b ∈ S.fp, ∀ o, s.heap.get? b = some o → h.get? b = some o) → S.tn it i h → St i h) ∧ (∀ i h, St i h → S.tn it i h) ∧ (∀ i u, Pr i u → ∃ x, xs[i]? = some x ∧ RelV x u) := by
  cases S with
  | lst a =>
    obtain ⟨_, its, n, r, e⟩ := rdL I hat
    have hs : its.toArray.size = xs.length := by rw [List.size_toArray, r.length]
    refine ⟨_, _, hs ▸ Draws.list hh it a (fun z => hne (by simp [Sd.fp, z])) its.toArray, fun i h k t => ⟨t, ⟨_, k a (by simp [Sd.fp]) _ e, rfl, n, rfl⟩⟩, fun i h t => t.1, fun i u hu => get_vals r (by simpa using hu)⟩
  | tup a =>
    obtain ⟨its, r, o, e, c, n, d⟩ := rdT I hat
    have hs : its.toArray.size = xs.length := by rw [List.size_toArray, r.length]
    refine ⟨_, _, hs ▸ Draws.tuple hh it a (fun z => hne (by simp [Sd.fp, z])) its.toArray, fun i h k t => ⟨t, ⟨o, k a (by simp [Sd.fp]) _ e, c, n, d⟩⟩, fun i h t => t.1, fun i u hu => get_vals r (by simpa using hu)⟩
  | str z t =>
    have hat : xs = signs z := hat
    have hs : z.cps.size = xs.length := by rw [hat]; simp [signs]
    refine ⟨_, _, hs ▸ Draws.text hh it z t, fun i h k t => t, fun i h t => t, fun i u hu => ?_⟩
    obtain ⟨c, w, hc, rfl⟩ := hu
    refine ⟨.str ⟨#[c]⟩, ?_, ⟨w, rfl⟩⟩
    rw [hat]
    simp [signs, hc]
theorem Sd.begins {S : Sd} {xs : List V} (I : Inv X pins σ H s) (hat : S.at H xs) : ∃ Hb, Begins S.val S.obj Hb ∧ Hb s.heap := by
  cases S with
  | lst a =>
    obtain ⟨_, its, n, r, e⟩ := rdL I hat
    exact ⟨_, begins_list a its.toArray, ⟨_, e, rfl, n, rfl⟩⟩
  | tup a =>
    obtain ⟨its, r, ht⟩ := rdT I hat
    exact ⟨_, begins_tuple a its.toArray, ht⟩
  | str z t => exact ⟨_, begins_text z t, trivial⟩
theorem Sd.lt {S : Sd} {xs : List V} (I : Inv X pins σ H s) (hat : S.at H xs) : ∀ b ∈ S.fp, b < s.heap.objs.size := fun b hb => by
  cases q : H b with
  | none => exact absurd q (Sd.tracked hat b hb)
  | some o => exact I.hok.lt q
end
/-- a datum that is walked -/
theorem seq_sd {Hs : Hp} {v : V} {u : Value} {d : PyData} {ds : List PyData} (h : Dd Hs v d) (r : RelV v u) (e : seqOf d = some ds) : ∃ (S : Sd) (xs : List V), u = S.val ∧ S.at Hs xs ∧ DdAll Hs xs ds := by
  cases d with
  | list es =>
    cases e
    cases h with
    | @lst a xs _ h1 h2 => cases r; exact ⟨.lst a, xs, rfl, h1, h2⟩
  | tuple es =>
    cases e
    cases h with
    | @tup a xs _ h1 h2 => cases r; exact ⟨.tup a, xs, rfl, h1, h2⟩
  | str z =>
    cases e
    cases h with
    | str _ ho =>
      obtain ⟨t, rfl⟩ := r
      refine ⟨.str z t, signs z, rfl, rfl, ?_⟩
      have : ∀ l : List Nat, (∀ c ∈ l, c ∈ z.cps.toList) → DdAll Hs (l.map fun c => V.str ⟨#[c]⟩) (l.map fun c => PyData.str ⟨#[c]⟩) := by
        intro l
        induction l with
        | nil => intro _; exact .nil
        | cons c l ih => intro hl; exact .cons (.str _ (strOk_one ho (hl c (by simp)))) (ih fun x hx => hl x (List.mem_cons_of_mem _ hx))
      exact this _ fun _ h => h
  | _ => cases e
/-! #### a walk in which each turn gives a new tuple -/
def ItG (n : Hp → Nat → Prop) (Y : Nat → Hp → List V → Prop) : L2.It :=
  ⟨fun i H => ∃ k, n H k ∧ i < k, fun i H v H' => ∃ T xs, v = .ref T ∧ H T = none ∧ H' = upd H T (.tup xs) ∧ Y i H xs, fun i H => n H i⟩
theorem turn_goes {P : Program} {w : World} {K : PySem.W.Frag} {elts : List Expr} {kk : Nat} {tpos : Pos} {z : Addr} {fp : List Addr} {n : Hp → Nat → Prop} {Y : Nat → Hp → List V → Prop} {tn : Nat → Heap → Prop}
    (mem : z ∈ fp) (obj : ∀ i h, tn i h → ∀ b ∈ fp, ∃ o, h.get? b = some o ∧ ∀ v, o.data ≠ .cell v)
    (keep : ∀ i h h', tn i h → (∀ b ∈ fp, ∀ o, h.get? b = some o → h'.get? b = some o) → tn i h')
    (self : ∀ (A : Around) (i : Nat) (s : Shared) (Q : Value → Shared → Prop) (E : Value → Shared → Prop), tn i s.heap → Q (.ref z) s → wpAny (model P w) A (pyIter (.ref z)) Q E s)
    (go : ∀ (X : Cx), X.prog = P → X.w = w → X.K = K → X.calm = true → ∀ (k : Nat) (pins : List (Addr × Obj)) (s : Shared) (σ : St) (H : Hp), Inv X pins σ H s → (∀ b ∈ fp, FpOk X pins H b) → n H k → (∃ i, tn i s.heap) →
      ∃ (fpG wr : List Addr) (YG : Nat → Heap → Value → Heap → Prop) (St : Nat → Heap → Prop), (∀ b ∈ wr, b ∈ fp) ∧ GoesN P w X.A (.Tuple elts kk tpos) z fpG wr k YG St ∧ (∀ i, tn i s.heap → St i s.heap) ∧
        (∀ i h, St i h → tn i h) ∧ (∀ i h0 v h, YG i h0 v h → ∃ T vals xs, v = .ref T ∧ h0.objs.size ≤ T ∧ h.IsTuple T vals ∧ Vals xs vals.toList ∧ xs.length ≤ 1000 ∧ Y i H xs)) :
    Turn P w K (.Tuple elts kk tpos) (ItG n Y) fp z tn where
  mem := mem
  obj := obj
  keep := keep
  item := by
    intro X hP hw hK hc i pins s σ H E I hf st hg
    obtain ⟨k, hk, hi⟩ := hg
    obtain ⟨fpG, wr, YG, St, hwr, W, h1, h2, h3⟩ := go X hP hw hK hc k pins s σ H I hf hk ⟨i, st⟩
    subst hP hw hK
    refine wpAny_mono (W.goes i s (fun v s2 => ∃ x H', Inv X pins σ H' s2 ∧ RelV x v ∧ (ItG n Y).yld i H x H' ∧ tn (i + 1) s2.heap ∧ ∀ b ∈ fp, H' b = none) E hi (h1 i st) fun v h' tk hY st' hkp _ => ?_) (fun r s1 ⟨u, e, q⟩ => ⟨u, e, q⟩) fun _ _ x => x
    obtain ⟨T, vals, xs, rfl, hT, ⟨o, ho, hoc, m, hod⟩, hv, hz, hy⟩ := h3 i s.heap v h' hY
    have new : ObjOk X.prog X.w (upd H T (.tup xs)) h' T (.tup xs) := ⟨Nat.le_trans hz (by rw [sizeLine_eq]; decide), vals.toList, hv, ⟨o, ho, hoc, m, by simpa using hod⟩⟩
    have I1 : Inv X pins σ (upd H T (.tup xs)) { s with heap := h', toks := tk } := I.turnedNew (t' := tk) (ch := fp) (fun c oc hc' q => hkp c oc (fun z => hc' (hwr c z)) q) hf hT new
    refine ⟨.ref T, _, I1, rfl, ⟨T, xs, rfl, I.hok.fresh hT, rfl, hy⟩, h2 _ _ st', fun b hb => ?_⟩
    obtain ⟨ob, e, _⟩ := obj i s.heap st b hb
    have : b ≠ T := Nat.ne_of_lt (Nat.lt_of_lt_of_le (Heap.lt_size e) hT)
    rw [upd_ne this]
    exact (hf b hb).1
  done := by
    intro X hP hw hK hc i pins s σ H E I hf st hg
    obtain ⟨fpG, wr, YG, St, hwr, W, h1, h2, h3⟩ := go X hP hw hK hc i pins s σ H I hf hg ⟨i, st⟩
    subst hP hw hK
    exact W.stops s (fun s1 => Inv X pins σ H s1) E (h1 i st) fun h' tk hkp _ => I.turnedL (t' := tk) (ch := fp) (fun c oc hc' q => hkp c oc (fun z => hc' (hwr c z)) q) hf
  self := self
/-! #### zip, enumerate -/
def nZip (S1 S2 : Sd) : Hp → Nat → Prop := fun H k => ∃ xs ys, S1.at H xs ∧ S2.at H ys ∧ k = min xs.length ys.length
def yZip (S1 S2 : Sd) : Nat → Hp → List V → Prop := fun i H vs => ∃ xs ys x y, S1.at H xs ∧ S2.at H ys ∧ xs[i]? = some x ∧ ys[i]? = some y ∧ vs = [x, y]
def tnZip (S1 S2 : Sd) (z TI TO i1 i2 : Addr) : Nat → Heap → Prop := fun i h => IsZip h z TI TO .none ∧ IsTupOf2 h TI (.ref i1) (.ref i2) ∧ (∃ a1 a2, IsTupOf2 h TO a1 a2) ∧ S1.tn i1 i h ∧ S2.tn i2 i h
theorem turn_zip2 {P : Program} {w : World} {K : PySem.W.Frag} {elts : List Expr} {kk : Nat} {tpos : Pos} (S1 S2 : Sd) (N : Nat) (hn1 : ∀ b ∈ S1.fp, b < N) (hn2 : ∀ b ∈ S2.fp, b < N) :
    Turn P w K (.Tuple elts kk tpos) (ItG (nZip S1 S2) (yZip S1 S2)) [N + 4, N + 2, N + 3, N, N + 1] (N + 4) (tnZip S1 S2 (N + 4) (N + 2) (N + 3) N (N + 1)) := by
  refine turn_goes (by simp) (fun i h t b hb => ?_) (fun i h h' t k => ?_) (fun A i s Q E t q => wpAny_pyIter_zip t.1 q) fun X hP hw hK hc k pins s σ H I hf hk ht => ?_
  · obtain ⟨t1, t2, ⟨a1, a2, t3⟩, t4, t5⟩ := t
    have e' : b = N + 4 ∨ b = N + 2 ∨ b = N + 3 ∨ b = N ∨ b = N + 1 := by simpa using hb
    rcases e' with q | q | q | q | q
    · rw [q]; exact ⟨_, t1, fun v q => nomatch q⟩
    · rw [q]; exact ⟨_, t2, fun v q => nomatch q⟩
    · rw [q]; exact ⟨_, t3, fun v q => nomatch q⟩
    · rw [q]; exact Sd.there t4
    · rw [q]; exact Sd.there t5
  · obtain ⟨t1, t2, ⟨a1, a2, t3⟩, t4, t5⟩ := t
    exact ⟨k _ (by simp) _ t1, k _ (by simp) _ t2, ⟨a1, a2, k _ (by simp) _ t3⟩, Sd.keep t4 fun o q => k _ (by simp) o q, Sd.keep t5 fun o q => k _ (by simp) o q⟩
  · obtain ⟨xs, ys, h1, h2, rfl⟩ := hk
    have hh : X.A.in1.handled = none := I.ok.hd hc
    obtain ⟨St1, P1, D1, a1, b1, c1⟩ := S1.draws (A := X.A.in1) (it := N) I h1 hh (fun z => absurd (hn1 _ z) (Nat.lt_irrefl _))
    obtain ⟨St2, P2, D2, a2, b2, c2⟩ := S2.draws (A := X.A.in1) (it := N + 1) I h2 hh (fun z => absurd (hn2 _ z) (Nat.not_lt.mpr (Nat.le_succ N)))
    subst hP hw hK
    refine ⟨_, _, _, _, fun b hb => ?_, GoesN.zip2 (zip_sep2 hn1 hn2) D1 D2, fun i t => ⟨t.1, t.2.1, t.2.2.1, a1 i _ (fun _ _ _ e => e) t.2.2.2.1, a2 i _ (fun _ _ _ e => e) t.2.2.2.2⟩,
      fun i h t => ⟨t.1, t.2.1, t.2.2.1, b1 _ _ t.2.2.2.1, b2 _ _ t.2.2.2.2⟩, fun i h0 v h hY => ?_⟩
    · have : b = N + 4 ∨ b = N + 3 ∨ b = N ∨ b = N + 1 := by simpa using hb
      rcases this with q | q | q | q <;> simp [q]
    · obtain ⟨T, x, y, rfl, hT, p1, p2, hv⟩ := hY
      obtain ⟨x', e1, r1⟩ := c1 i x p1
      obtain ⟨y', e2, r2⟩ := c2 i y p2
      exact ⟨T, _, [x', y'], rfl, hT, hv, .cons r1 (.cons r2 .nil), by simp, xs, ys, x', y', h1, h2, e1, e2, rfl⟩
def nEnm (S : Sd) : Hp → Nat → Prop := fun H k => ∃ xs, S.at H xs ∧ k = xs.length
def yEnm (S : Sd) : Nat → Hp → List V → Prop := fun i H vs => ∃ xs x, S.at H xs ∧ xs[i]? = some x ∧ vs = [.int (i : Int), x]
def tnEnm (S : Sd) (e it : Addr) : Nat → Heap → Prop := fun i h => (∃ old, IsEnum h e it (i : Int) old) ∧ S.tn it i h
theorem turn_enm {P : Program} {w : World} {K : PySem.W.Frag} {elts : List Expr} {kk : Nat} {tpos : Pos} (S : Sd) (N : Nat) (hn : ∀ b ∈ S.fp, b < N) :
    Turn P w K (.Tuple elts kk tpos) (ItG (nEnm S) (yEnm S)) [N + 1, N] (N + 1) (tnEnm S (N + 1) N) := by
  refine turn_goes (by simp) (fun i h t b hb => ?_) (fun i h h' t k => ?_) (fun A i s Q E t q => by obtain ⟨⟨old, t⟩, _⟩ := t; exact wpAny_pyIter_enum t q) fun X hP hw hK hc k pins s σ H I hf hk ht => ?_
  · obtain ⟨⟨old, t1⟩, t2⟩ := t
    have e' : b = N + 1 ∨ b = N := by simpa using hb
    rcases e' with q | q
    · rw [q]; exact ⟨_, t1, fun v q => nomatch q⟩
    · rw [q]; exact Sd.there t2
  · obtain ⟨⟨old, t1⟩, t2⟩ := t
    exact ⟨⟨old, k _ (by simp) _ t1⟩, Sd.keep t2 fun o q => k _ (by simp) o q⟩
  · obtain ⟨xs, h1, rfl⟩ := hk
    have hh : X.A.in1.handled = none := I.ok.hd hc
    obtain ⟨St1, P1, D1, a1, b1, c1⟩ := S.draws (A := X.A.in1) (it := N) I h1 hh (fun z => absurd (hn _ z) (Nat.lt_irrefl _))
    subst hP hw hK
    refine ⟨_, _, _, _, fun b hb => ?_, GoesN.enumFrom 0 D1 (N + 1) (Nat.succ_ne_self N) (fun z => ?_) (by simp), fun i t => ⟨by simpa using t.1, a1 i _ (fun _ _ _ e => e) t.2⟩, fun i h t => ⟨by simpa using t.1, b1 _ _ t.2⟩, fun i h0 v h hY => ?_⟩
    · have : b = N + 1 ∨ b = N := by simpa using hb
      rcases this with q | q <;> simp [q]
    · rcases List.mem_cons.mp z with z | z
      · exact Nat.succ_ne_self N z
      · exact absurd (hn _ z) (Nat.not_lt.mpr (Nat.le_succ N))
    · obtain ⟨T, t, x, rfl, hT, p1, hv⟩ := hY
      obtain ⟨x', e1, r1⟩ := c1 i x p1
      exact ⟨T, _, [.int (i : Int), x'], rfl, hT, hv, .cons ⟨t, by simp⟩ (.cons r1 .nil), by simp, xs, x', h1, e1, rfl⟩
end QB
/-! ### iterators, targets, comprehensions -/
namespace QB
open PySem L2
open Sem (wp)
/-- the walk J gives the data ds, one after the other; its things stand in the still part Hs -/
def WalkD (J : L2.It) (Hs : Hp) (ds : List PyData) : Prop :=
  Walk J ds.length (fun H => Same Hs H) (fun i H x H' => ∃ d, ds[i]? = some d ∧ ∀ Hs1, Same Hs Hs1 → Same Hs1 H → ∃ Hs2, Ext Hs1 H Hs2 H' ∧ Dd Hs2 x d)
abbrev okI : List PyData → L2.It → Hp → Prop := fun ds J Hs => WalkD J Hs ds
def DI (X : Cx) (W : WX) (tg iter : Expr) (m : Env → R (List PyData)) : Prop := ∃ wi, PI X tg iter wi ∧ ∀ ρ σ Hs H (Rq : L2.It → Hp → Prop), Rel0 ρ σ Hs H → PostG (Exc X W σ) Hs H (m ρ) okI Rq → wi σ H Rq
theorem walkD_of {J : L2.It} {Hs : Hp} {xs : List V} {ds : List PyData} (hd : DdAll Hs xs ds) (hw : Walk J xs.length (fun H => Same Hs H) (YAt xs)) : WalkD J Hs ds := by
  have hl := dpaLen hd
  refine ⟨fun i H hi => hw.goes i H (by rw [hl]; exact hi), fun H h => by rw [← hl]; exact hw.stops H h, fun i H x H' hi hs hy => ?_⟩
  obtain ⟨rfl, hx⟩ := hw.yields i H x H' (by rw [hl]; exact hi) hs hy
  obtain ⟨d, h1, h2⟩ := dpaGetV hd hx
  exact ⟨d, h1, fun Hs1 a b => ⟨Hs1, Ext.refl b, dpMono a d h2⟩⟩
section
variable {X : Cx} {W : WX} {tg : Expr} {a b c : Expr} {ma mb mc : Env → R PyData} {pos : Pos}
def iSeqD (te : TE) : TI := fun σ H Rq => te σ H fun v H1 => ∃ Hs d ds, Same Hs H1 ∧ Dd Hs v d ∧ seqOf d = some ds ∧ ∀ J, WalkD J Hs ds → Rq J H1
theorem pi_seqD {e : Expr} {te : TE} (he : PE X e te) : PI X tg e (iSeqD te) := by
  refine ⟨fun pins s σ H Rq I h => ?_⟩
  refine thn (he.run pins s σ H _ I h) fun v s1 ⟨x, H1, I1, r1, Hs, d, ds, sub, hd, hsq, q⟩ => ?_
  obtain ⟨S, xs, rfl, hat, hdd⟩ := seq_sd hd r1 hsq
  cases S with
  | lst l =>
    have hq : SqL X.K H1 l xs := .inl (rdS sub hat)
    obtain ⟨its, rv, p, hz⟩ := I1.list hq
    refine wpAny_pyIter_list p.isList ?_
    refine ⟨s1.heap.objs.size, [s1.heap.objs.size], _, _, H1, rfl, I1.kept (t' := s1.toks) fun b o e => Heap.get?_push_of_some _ e, turn_list l _, ⟨_, Heap.get?_push_size _ rfl, rfl, rfl⟩, fun b hb => ?_, q _ (walkD_of hdd ?_)⟩
    · have e : b = s1.heap.objs.size := by simpa using hb
      subst e
      exact I1.fpOk (Nat.le_refl _) (I1.hok.fresh (Nat.le_refl _))
    · exact walk_list.mono (fun H hs => .inl (rdS hs hat)) fun i H x H' _ _ y => y
  | tup l =>
    have hq : SqT X.K H1 l xs := .inl (rdS sub hat)
    obtain ⟨its, rv, p, hz⟩ := I1.tuple hq
    refine wpAny_pyIter_tuple (show s1.heap.IsTuple l its.toArray from p) ?_
    refine ⟨s1.heap.objs.size, [s1.heap.objs.size], _, _, H1, rfl, I1.kept (t' := s1.toks) fun b o e => Heap.get?_push_of_some _ e, turn_tuple l _, ⟨_, Heap.get?_push_size _ rfl, rfl, rfl⟩, fun b hb => ?_, q _ (walkD_of hdd ?_)⟩
    · have e : b = s1.heap.objs.size := by simpa using hb
      subst e
      exact I1.fpOk (Nat.le_refl _) (I1.hok.fresh (Nat.le_refl _))
    · exact walk_tup.mono (fun H hs => .inl (rdS hs hat)) fun i H x H' _ _ y => y
  | str z t =>
    have hat : xs = signs z := hat
    have hw : WalkD (Its z) Hs ds := walkD_of hdd (by
      rw [hat]
      have hl : (signs z).length = z.cps.size := by simp [signs]
      rw [hl]
      refine walk_str.mono (fun _ _ => trivial) fun i H x H' _ _ y => ⟨y.1, ?_⟩
      obtain ⟨_, c, hc, rfl⟩ := y
      simp [signs, hc])
    cases ha : z.cps.all (· < 128)
    · exact wpAny_pyIter_wide ha (pi_one (tk := s1.toks) I1 _ (turn_str _ z t "str_iterator" (.inr rfl)) ⟨_, Heap.get?_push_size _ rfl, rfl, rfl⟩ (q _ hw))
    · exact wpAny_pyIter_ascii ha (pi_one (tk := s1.toks) I1 _ (turn_str _ z t "str_ascii_iterator" (.inl rfl)) ⟨_, Heap.get?_push_size _ rfl, rfl, rfl⟩ (q _ hw))
theorem di_seq (ha : DE X W a ma) : DI X W tg a (fun ρ => (ma ρ).bind fun d => R.of (seqOf d) fun ds => .ok ds) := by
  obtain ⟨ta, pa, qa⟩ := ha
  refine ⟨_, pi_seqD pa, fun ρ σ Hs H Rq r h => ?_⟩
  refine qa ρ σ Hs H _ r (h.seq fun d v Hs1 H1 _ e1 o1 h1 => ?_)
  obtain ⟨ds, hd, h1⟩ := PostG.of h1
  exact ⟨Hs1, d, ds, e1.sub, o1, hd, fun J w => h1 J Hs1 H1 (Ext.refl e1.sub) w⟩
/-! #### ranges -/
theorem walkD_rng {Hs : Hp} (i : Int) (n : Nat) : WalkD (Itr i n) Hs ((List.range n).map fun k => .int (i + (k : Nat))) := by
  have hl : ((List.range n).map fun k => PyData.int (i + (k : Nat))).length = n := by simp
  unfold WalkD
  rw [hl]
  refine walk_range.mono (fun _ _ => trivial) fun k H x H' hk hs y => ?_
  obtain ⟨rfl, rfl⟩ := y
  refine ⟨.int (i + (k : Nat)), by simp [hk], fun Hs1 _ b => ⟨Hs1, Ext.refl b, .int _⟩⟩
theorem di_rng1 {p : Pos} (hb : BltT X "range" "range") (hs : noStar a = true) (ha : DE X W a ma) : DI X W tg (.Call (.Name "range" p) [a] [] pos) (fun ρ => (ma ρ).bind fun d => match d with
    | .int j => rngI 0 j
    | _ => .stuck) := by
  obtain ⟨ta, pa, qa⟩ := ha
  refine ⟨_, pi_range1 hb.1 hb.2.1 (pa_cons pa pa_nil (star_cons hs)) (star_cons hs), fun ρ σ Hs H Rq r h => ?_⟩
  refine qa ρ σ Hs H _ r (h.seq fun d v Hs1 H1 _ e1 o1 h1 => ?_)
  cases d with
  | int j =>
    obtain ⟨hc, h1⟩ := PostG.when h1
    have hc := of_decide_eq_true hc
    cases o1
    refine ⟨j, rfl, by omega, by omega, h1 (Itr 0 j.toNat) Hs1 H1 (Ext.refl e1.sub) ?_⟩
    have := walkD_rng (Hs := Hs1) 0 (j - 0).toNat
    rwa [show (j - 0).toNat = j.toNat by rw [Int.sub_zero]] at this ⊢
  | _ => exact h1.elim
theorem di_rng2 {p : Pos} (hb : BltT X "range" "range") (hs : noStar a = true) (hs2 : noStar b = true) (ha : DE X W a ma) (hb2 : DE X W b mb) : DI X W tg (.Call (.Name "range" p) [a, b] [] pos) (fun ρ => (ma ρ).bind fun d => (mb ρ).bind fun e => match d, e with
    | .int i, .int j => rngI i j
    | _, _ => .stuck) := by
  obtain ⟨ta, pa, qa⟩ := ha
  obtain ⟨tb, pb, qb⟩ := hb2
  have e2 : starEach [a, b] X.env = [(false, eval a X.env), (false, eval b X.env)] := by rw [star_cons hs, star_cons hs2]; rfl
  refine ⟨_, pi_range2 hb.1 hb.2.1 (pa_cons pa (pa_cons pb pa_nil (star_cons hs2)) (star_cons hs)) e2 (star_cons hs2), fun ρ σ Hs H Rq r h => ?_⟩
  refine qa ρ σ Hs H _ r (h.seq fun d v Hs1 H1 _ e1 o1 h1 => ?_)
  refine qb ρ σ Hs1 H1 _ (r.ext e1) (h1.seq fun e w Hs2 H2 _ e2 o2 h2 => ?_)
  cases d with
  | int i =>
    cases e with
    | int j =>
      obtain ⟨hc, h2⟩ := PostG.when h2
      have hc := of_decide_eq_true hc
      cases o1
      cases o2
      exact ⟨i, j, rfl, by omega, h2 _ Hs2 H2 (Ext.refl e2.sub) (walkD_rng i (j - i).toNat)⟩
    | _ => exact h2.elim
  | _ => exact h2.elim
/-! #### zip, enumerate -/
theorem ext_tup {Hs H : Hp} {T : Addr} {xs : List V} {ds : List PyData} (e : Same Hs H) (hT : H T = none) (hd : DdAll Hs xs ds) : ∃ Hs2, Ext Hs H Hs2 (upd H T (.tup xs)) ∧ Dd Hs2 (.ref T) (.tuple ds) :=
  ⟨_, Ext.laid e hT, .tup (.inl upd_same) (dpaMono (same_new (e.free hT)) ds hd)⟩
theorem walkD_zip {S1 S2 : Sd} {Hs : Hp} {xs ys : List V} {ds es : List PyData} (h1 : S1.at Hs xs) (h2 : S2.at Hs ys) (hd : DdAll Hs xs ds) (he : DdAll Hs ys es) :
    WalkD (ItG (nZip S1 S2) (yZip S1 S2)) Hs (List.zipWith (fun x y => .tuple [x, y]) ds es) := by
  have hl : (List.zipWith (fun x y => PyData.tuple [x, y]) ds es).length = min xs.length ys.length := by rw [List.length_zipWith, dpaLen hd, dpaLen he]
  unfold WalkD
  rw [hl]
  refine ⟨fun i H hi hs => ⟨_, ⟨xs, ys, Sd.mono hs h1, Sd.mono hs h2, rfl⟩, hi⟩, fun H hs => ⟨xs, ys, Sd.mono hs h1, Sd.mono hs h2, rfl⟩, fun i H v H' hi hs hy => ?_⟩
  obtain ⟨T, vs, rfl, hT, rfl, xs', ys', x, y, k1, k2, q1, q2, rfl⟩ := hy
  rw [Sd.inj k1 (Sd.mono hs h1)] at q1
  rw [Sd.inj k2 (Sd.mono hs h2)] at q2
  obtain ⟨d, d1, d2⟩ := dpaGetV hd q1
  obtain ⟨e, e1, e2⟩ := dpaGetV he q2
  refine ⟨.tuple [d, e], by simp [List.getElem?_zipWith, d1, e1], fun Hs1 a b => ext_tup b hT (.cons (dpMono a d d2) (.cons (dpMono a e e2) .nil))⟩
theorem walkD_enm {S : Sd} {Hs : Hp} {xs : List V} {ds : List PyData} (h1 : S.at Hs xs) (hd : DdAll Hs xs ds) :
    WalkD (ItG (nEnm S) (yEnm S)) Hs (List.zipWith (fun i x => .tuple [.int ((i : Nat) : Int), x]) (List.range ds.length) ds) := by
  have hl : (List.zipWith (fun i x => PyData.tuple [.int ((i : Nat) : Int), x]) (List.range ds.length) ds).length = xs.length := by rw [List.length_zipWith, List.length_range, dpaLen hd]; exact Nat.min_self _
  unfold WalkD
  rw [hl]
  refine ⟨fun i H hi hs => ⟨_, ⟨xs, Sd.mono hs h1, rfl⟩, hi⟩, fun H hs => ⟨xs, Sd.mono hs h1, rfl⟩, fun i H v H' hi hs hy => ?_⟩
  obtain ⟨T, vs, rfl, hT, rfl, xs', x, k1, q1, rfl⟩ := hy
  rw [Sd.inj k1 (Sd.mono hs h1)] at q1
  obtain ⟨d, d1, d2⟩ := dpaGetV hd q1
  have hi' : i < ds.length := by rw [← dpaLen hd]; exact hi
  refine ⟨.tuple [.int (i : Int), d], by rw [List.getElem?_zipWith, d1, List.getElem?_range hi'], fun Hs1 a b => ext_tup b hT (.cons (.int _) (.cons (dpMono a d d2) .nil))⟩
def iZipD (ta : TA) : TI := fun σ H Rq => ta σ H fun vs H1 => ∃ Hs v w d e ds es, vs = [v, w] ∧ Same Hs H1 ∧ Dd Hs v d ∧ Dd Hs w e ∧ seqOf d = some ds ∧ seqOf e = some es ∧ ∀ J, WalkD J Hs (List.zipWith (fun x y => .tuple [x, y]) ds es) → Rq J H1
theorem pi_zipD {e e2 : Expr} {ta : TA} {p pos tpos : Pos} {elts : List Expr} {kk : Nat} (hb : BltT X "zip" "zip") (ha : PA X [e, e2] ta) (hs : noStar e = true) (hs2 : noStar e2 = true) :
    PI X (.Tuple elts kk tpos) (.Call (.Name "zip" p) [e, e2] [] pos) (iZipD ta) := by
  refine ⟨fun pins s σ H Rq I h => ?_⟩
  refine PyProof.Rows.Call_ (ld_blt I hb.1 hb.2.1 hb.2.2.1 (PyProof.Rows.callWith_type1 (thn (ha.run pos pins s σ H _ I h) fun us s1 ⟨vs, H1, I1, r1, q1⟩ => ?_) (star_cons hs) (noplain (by simp [hs2]))))
  obtain ⟨Hs, v, w, d, f, ds, es, rfl, sub, hd, he, sd, se, q⟩ := q1
  obtain ⟨u1, u2, rfl, ru1, ru2⟩ := vals2 r1
  obtain ⟨S1, xs, rfl, h1, hdd⟩ := seq_sd hd ru1 sd
  obtain ⟨S2, ys, rfl, h2, hee⟩ := seq_sd he ru2 se
  obtain ⟨Hb1, B1, b1⟩ := S1.begins I1 (Sd.mono sub h1)
  obtain ⟨Hb2, B2, b2⟩ := S2.begins I1 (Sd.mono sub h2)
  refine zip_begins2 B1 B2 b1 b2 fun h' hz hTI hTO g1 g2 hsz hk => wpAny_pyIter_zip hz ?_
  have I2 : Inv X pins σ H1 { s1 with heap := h' } := I1.kept (t' := s1.toks) hk
  refine ⟨s1.heap.objs.size + 4, [s1.heap.objs.size + 4, s1.heap.objs.size + 2, s1.heap.objs.size + 3, s1.heap.objs.size, s1.heap.objs.size + 1], _, _, H1, rfl, I2,
    turn_zip2 S1 S2 s1.heap.objs.size (Sd.lt I1 (Sd.mono sub h1)) (Sd.lt I1 (Sd.mono sub h2)), ⟨hz, hTI, ⟨_, _, hTO⟩, Sd.start g1, Sd.start g2⟩, fun c hcm => ?_, q _ (walkD_zip h1 h2 hdd hee)⟩
  have hle : s1.heap.objs.size ≤ c := by
    have e' : c = s1.heap.objs.size + 4 ∨ c = s1.heap.objs.size + 2 ∨ c = s1.heap.objs.size + 3 ∨ c = s1.heap.objs.size ∨ c = s1.heap.objs.size + 1 := by simpa using hcm
    rcases e' with z | z | z | z | z <;> rw [z] <;> first | exact Nat.le_add_right _ _ | exact Nat.le_refl _
  exact I1.fpOk hle (I1.hok.fresh hle)
theorem di_zip2 {p tpos : Pos} {elts : List Expr} {kk : Nat} (hb : BltT X "zip" "zip") (hs : noStar a = true) (hs2 : noStar b = true) (ha : DE X W a ma) (hb2 : DE X W b mb) :
    DI X W (.Tuple elts kk tpos) (.Call (.Name "zip" p) [a, b] [] pos) (fun ρ => (ma ρ).bind fun d => (mb ρ).bind fun e => R.of (seqOf d) fun ds => R.of (seqOf e) fun es => .ok (List.zipWith (fun x y => .tuple [x, y]) ds es)) := by
  obtain ⟨ta, pa, qa⟩ := ha
  obtain ⟨tb, pb, qb⟩ := hb2
  refine ⟨_, pi_zipD hb (pa_cons pa (pa_cons pb pa_nil (star_cons hs2)) (star_cons hs)) hs hs2, fun ρ σ Hs H Rq r h => ?_⟩
  refine qa ρ σ Hs H _ r (h.seq fun d v Hs1 H1 _ e1 o1 h1 => ?_)
  refine qb ρ σ Hs1 H1 _ (r.ext e1) (h1.seq fun e w Hs2 H2 _ e2 o2 h2 => ?_)
  obtain ⟨ds, hd, h2⟩ := PostG.of h2
  obtain ⟨es, he, h2⟩ := PostG.of h2
  exact ⟨Hs2, v, w, d, e, ds, es, rfl, e2.sub, dpMono e2.s d o1, o2, hd, he, fun J w => h2 J Hs2 H2 (Ext.refl e2.sub) w⟩
theorem meets_enum1 {v : Value} {o : Obj} {H1 : Heap → Prop} (B1 : Begins v o H1) :
    Meets (Builtin.«enumerate.__new__» ⟨[.type "enumerate", v], []⟩) (fun _ R s => H1 s.heap ∧
      R (.ok (.ret (.ref (s.heap.push o).objs.size))) { s with heap := (s.heap.push o).push { cls := .type "enumerate", data := .fields #[.none, .bool false, .ref s.heap.objs.size, rawInt 0, .none, .none] } }) :=
  .of_wp fun prog w A R s h => by
    obtain ⟨hp, g, d, tk, os⟩ := s; obtain ⟨h1, h⟩ := h
    have hsub := sub_enumerate
    have q1 : ∀ {A' : Around} {E : Value → Shared → Prop} {Q : Value → Shared → Prop}, Q (.ref hp.objs.size) ⟨(hp.push o), g, d, tk, os⟩ → wpAny (model prog w) A' (pyIter v) Q E ⟨hp, g, d, tk, os⟩ :=
      fun q => B1.iter prog w _ _ ⟨hp, g, d, tk, os⟩ _ h1 q
    wp_walk
    refine wpAny_stack_any fun st => wpAny_pure ?_
    split
    · rename_i c _ _ _ _ _
      cases (c == Value.type "enumerate")
      · wp_walk using q1
        exact ⟨_, rfl, h⟩
      · wp_walk using q1
        exact ⟨_, rfl, h⟩
    · wp_walk using q1
      exact ⟨_, rfl, h⟩
theorem enum_begins1 {prog : Program} {w : World} {A : Around} {E : Value → Shared → Prop} {s : Shared} {v : Value} {o : Obj} {H1 : Heap → Prop} {Q : Value → Shared → Prop} (B1 : Begins v o H1) (h1 : H1 s.heap)
    (h : ∀ h', IsEnum h' (s.heap.objs.size + 1) s.heap.objs.size 0 .none → h'.get? s.heap.objs.size = some o → (∀ b o, s.heap.get? b = some o → h'.get? b = some o) → Q (.ref (s.heap.objs.size + 1)) { s with heap := h' }) :
    wpAny (model prog w) A (call (.type "enumerate") [v]) Q E s := by
  refine callType_new F.called_enumerate (by decide) (F.typeCall_enumerate_1 _) (F.newCall_enumerate_1 _) (fun obj => F.args_object_init_2 obj _) F.entry_enumerate_new (meets_enum1 B1) ⟨h1, ?_⟩
  have hz : (s.heap.push o).objs.size = s.heap.objs.size + 1 := Heap.size_push ..
  show _ ∧ _
  rw [hz]
  have he : IsEnum ((s.heap.push o).push { cls := .type "enumerate", data := .fields #[.none, .bool false, .ref s.heap.objs.size, rawInt 0, .none, .none] }) (s.heap.objs.size + 1) s.heap.objs.size 0 .none := by
    have q := Heap.get?_push_size (s.heap.push o) (o := { cls := .type "enumerate", data := .fields #[.none, .bool false, .ref s.heap.objs.size, rawInt 0, .none, .none] }) rfl
    rw [hz] at q
    exact q
  exact ⟨⟨_, he, rfl⟩, h _ he (Heap.get?_push_of_some _ (Heap.get?_push_size _ B1.free)) fun b o y => Heap.get?_push_of_some _ (Heap.get?_push_of_some _ y)⟩
def iEnmD (ta : TA) : TI := fun σ H Rq => ta σ H fun vs H1 => ∃ Hs v d ds, vs = [v] ∧ Same Hs H1 ∧ Dd Hs v d ∧ seqOf d = some ds ∧ ∀ J, WalkD J Hs (List.zipWith (fun i x => .tuple [.int ((i : Nat) : Int), x]) (List.range ds.length) ds) → Rq J H1
theorem pi_enmD {e : Expr} {ta : TA} {p pos tpos : Pos} {elts : List Expr} {kk : Nat} (hb : BltT X "enumerate" "enumerate") (ha : PA X [e] ta) (hs : noStar e = true) :
    PI X (.Tuple elts kk tpos) (.Call (.Name "enumerate" p) [e] [] pos) (iEnmD ta) := by
  refine ⟨fun pins s σ H Rq I h => ?_⟩
  refine PyProof.Rows.Call_ (ld_blt I hb.1 hb.2.1 hb.2.2.1 (PyProof.Rows.callWith_type1 (thn (ha.run pos pins s σ H _ I h) fun us s1 ⟨vs, H1, I1, r1, q1⟩ => ?_) (star_cons hs) rfl))
  obtain ⟨Hs, v, d, ds, rfl, sub, hd, sd, q⟩ := q1
  obtain ⟨u1, rfl, ru1⟩ := vals1 r1
  obtain ⟨S1, xs, rfl, h1, hdd⟩ := seq_sd hd ru1 sd
  obtain ⟨Hb1, B1, b1⟩ := S1.begins I1 (Sd.mono sub h1)
  refine enum_begins1 B1 b1 fun h' hz g1 hk => wpAny_pyIter_enum hz ?_
  have I2 : Inv X pins σ H1 { s1 with heap := h' } := I1.kept (t' := s1.toks) hk
  refine ⟨s1.heap.objs.size + 1, [s1.heap.objs.size + 1, s1.heap.objs.size], _, _, H1, rfl, I2, turn_enm S1 s1.heap.objs.size (Sd.lt I1 (Sd.mono sub h1)), ⟨⟨_, hz⟩, Sd.start g1⟩, fun c hcm => ?_, q _ (walkD_enm h1 hdd)⟩
  have hle : s1.heap.objs.size ≤ c := by
    have e' : c = s1.heap.objs.size + 1 ∨ c = s1.heap.objs.size := by simpa using hcm
    rcases e' with z | z <;> rw [z] <;> first | exact Nat.le_add_right _ _ | exact Nat.le_refl _
  exact I1.fpOk hle (I1.hok.fresh hle)
theorem di_enm {p tpos : Pos} {elts : List Expr} {kk : Nat} (hb : BltT X "enumerate" "enumerate") (hs : noStar a = true) (ha : DE X W a ma) :
    DI X W (.Tuple elts kk tpos) (.Call (.Name "enumerate" p) [a] [] pos) (fun ρ => (ma ρ).bind fun d => R.of (seqOf d) fun ds => .ok (List.zipWith (fun i x => .tuple [.int ((i : Nat) : Int), x]) (List.range ds.length) ds)) := by
  obtain ⟨ta, pa, qa⟩ := ha
  refine ⟨_, pi_enmD hb (pa_cons pa pa_nil (star_cons hs)) hs, fun ρ σ Hs H Rq r h => ?_⟩
  refine qa ρ σ Hs H _ r (h.seq fun d v Hs1 H1 _ e1 o1 h1 => ?_)
  obtain ⟨ds, hd, h1⟩ := PostG.of h1
  exact ⟨Hs1, v, d, ds, rfl, e1.sub, o1, hd, fun J w => h1 J Hs1 H1 (Ext.refl e1.sub) w⟩
end
end QB
/-! ### targets and comprehensions -/
namespace QB
open PySem L2
/-- what the check of a text knows of its place: the names by slot, the scope, which cells are one's own -/
structure Cc where
  N : List Str
  sc : Scope
  fn : Str → Bool
def isLoc (c : Cc) (x : Str) : Bool := match c.sc.names.lookup x with
  | some .local => true
  | some .cell => c.fn x
  | _ => false
def isVis (c : Cc) (x : Str) : Bool := (match c.sc.names.lookup x with
  | some .local => true
  | some .cell => true
  | some .free => true
  | _ => false) && !(x == ("__debug__" : Str)) && !(x == ("__classdict__" : Str))
def isGl (c : Cc) (x : Str) : Bool := (match c.sc.names.lookup x with
  | some .globalImplicit => true
  | _ => false) && !(x == ("__debug__" : Str))
structure InC (c : Cc) (X : Cx) : Prop where
  N : X.N = c.N
  sc : X.env.scope = c.sc
  fn : X.fn = c.fn
  nd : X.N.Nodup
  kind : c.sc.kind = .function
  calm : X.calm = true
theorem InC.loc {c : Cc} {X : Cx} (h : InC c X) {x : Str} (e : isLoc c x = true) : L2.Loc X.env.scope x ∧ (X.fn x = true ∨ X.env.scope.names.lookup x = some .local) := by
  unfold isLoc at e
  rw [h.sc, h.fn]
  unfold L2.Loc
  split at e
  · rename_i q; exact ⟨.inl q, .inr q⟩
  · rename_i q; exact ⟨.inr q, .inl e⟩
  · cases e
theorem InC.vis {c : Cc} {X : Cx} (h : InC c X) {x : Str} (e : isVis c x = true) : Vis X.env.scope x ∧ (x == ("__debug__" : Str)) = false ∧ (x == ("__classdict__" : Str)) = false := by
  unfold isVis at e
  simp only [Bool.and_eq_true, Bool.not_eq_true'] at e
  obtain ⟨⟨e1, e2⟩, e3⟩ := e
  refine ⟨?_, e2, e3⟩
  rw [h.sc]
  unfold Vis
  split at e1
  · rename_i q; exact .inl q
  · rename_i q; exact .inr (.inl q)
  · rename_i q; exact .inr (.inr q)
  · cases e1
theorem InC.gl {c : Cc} {X : Cx} (h : InC c X) {x : Str} (e : isGl c x = true) : Gl X x ∧ (x == ("__debug__" : Str)) = false := by
  unfold isGl at e
  simp only [Bool.and_eq_true, Bool.not_eq_true'] at e
  refine ⟨?_, e.2⟩
  unfold Gl Env.kindOf
  rw [h.sc]
  split at e
  · rename_i q; exact q
  · cases e.1
/-! #### targets -/
mutual
def tgB (c : Cc) : Tg → Expr → Bool
  | .nm i, .Name x _ => (match c.N[i]? with | some y => decide (y = x) | none => false) && isLoc c x
  | .tp ts, .Tuple es _ _ => tgsB c ts es
  | _, _ => false
def tgsB (c : Cc) : List Tg → List Expr → Bool
  | [], [] => true
  | t :: ts, e :: es => tgB c t e && noStar e && tgsB c ts es
  | _, _ => false
end
mutual
def Tg.slots : Tg → List Nat
  | .nm i => [i]
  | .tp ts => slotsL ts
def slotsL : List Tg → List Nat
  | [] => []
  | t :: ts => t.slots ++ slotsL ts
end
/-- a relation of slots that storing keeps -/
def Stores (Hs : Hp) (sl : List Nat) (Rl : Env → St → Prop) : Prop := ∀ ρ σ i v d, i ∈ sl → Rl ρ σ → Dd Hs v d → Rl (ρ.set i (.da d)) (σ.set i (some v))
def DG (X : Cx) (tg : Tg) (e : Expr) : Prop := ∃ g, PG X e g ∧ ∀ (Rl : Env → St → Prop) (Hs H : Hp) ρ σ v d (Q : St → Hp → Prop), Stores Hs tg.slots Rl → Same Hs H → Rl ρ σ → Dd Hs v d → ∀ ρ', asgT tg d ρ = .ok ρ' → (∀ σ', Rl ρ' σ' → Q σ' H) → g v σ H Q
def DGs (X : Cx) (ts : List Tg) (es : List Expr) : Prop := ∃ g, PGs X es g ∧ (assignEach es X.env).length = ts.length ∧ (assignEach es X.env).findIdx? (·.1) = none ∧
  ∀ (Rl : Env → St → Prop) (Hs H : Hp) ρ σ vs ds (Q : St → Hp → Prop), Stores Hs (slotsL ts) Rl → Same Hs H → Rl ρ σ → DdAll Hs vs ds → ∀ ρ', asgT.asgTs ts ds ρ = .ok ρ' → (∀ σ', Rl ρ' σ' → Q σ' H) → g vs σ H Q
theorem assign_cons {e : Expr} {es : List Expr} {env : PySem.Env} (h : noStar e = true) : assignEach (e :: es) env = (false, assign e env) :: assignEach es env := by
  cases e <;> first | rfl | cases h
theorem Stores.sub {Hs : Hp} {l l' : List Nat} {Rl : Env → St → Prop} (h : Stores Hs l Rl) (s : ∀ i ∈ l', i ∈ l) : Stores Hs l' Rl := fun ρ σ i v d hi => h ρ σ i v d (s i hi)
mutual
theorem dg_of {c : Cc} {X : Cx} (hX : InC c X) : ∀ (tg : Tg) (e : Expr), tgB c tg e = true → DG X tg e
  | .nm i, .Name x p, h => by
    rw [tgB, Bool.and_eq_true] at h
    obtain ⟨h1, h2⟩ := h
    have hi : X.N[i]? = some x := by
      rw [hX.N]
      cases q : c.N[i]? with
      | none => rw [q] at h1; cases h1
      | some y => rw [q] at h1; rw [of_decide_eq_true h1]
    obtain ⟨l1, l2⟩ := hX.loc h2
    refine ⟨_, pg_name hX.nd hi l1 l2, fun Rl Hs H ρ σ v d Q hs sub r hd ρ' e hq => ?_⟩
    cases e
    exact hq _ (hs ρ σ i v d (by simp [Tg.slots]) r hd)
  | .tp ts, .Tuple es k p, h => by
    rw [tgB] at h
    obtain ⟨g, hg, hl, hf, q⟩ := dgs_of hX ts es h
    refine ⟨_, pg_tup hX.calm hg hl hf, fun Rl Hs H ρ σ v d Q hs sub r hd ρ' e hq => ?_⟩
    cases d with
    | tuple ds =>
      cases hd with
      | @tup l xs _ h1 h2 =>
        have e : asgT.asgTs ts ds ρ = .ok ρ' := e
        refine ⟨l, xs, rfl, .inl (rdS sub h1), ?_, q Rl Hs H ρ σ xs ds Q (by simpa [Tg.slots] using hs) sub r h2 ρ' e hq⟩
        rw [dpaLen h2]
        exact asgTs_len ts ds ρ ρ' e
    | _ => cases e
  | .nm _, .BoolOp .., h => by simp [tgB] at h
  | .nm _, .NamedExpr .., h => by simp [tgB] at h
  | .nm _, .BinOp .., h => by simp [tgB] at h
  | .nm _, .UnaryOp .., h => by simp [tgB] at h
  | .nm _, .Lambda .., h => by simp [tgB] at h
  | .nm _, .IfExp .., h => by simp [tgB] at h
  | .nm _, .Dict .., h => by simp [tgB] at h
  | .nm _, .Set .., h => by simp [tgB] at h
  | .nm _, .ListComp .., h => by simp [tgB] at h
  | .nm _, .SetComp .., h => by simp [tgB] at h
  | .nm _, .DictComp .., h => by simp [tgB] at h
  | .nm _, .GeneratorExp .., h => by simp [tgB] at h
  | .nm _, .Await .., h => by simp [tgB] at h
  | .nm _, .Yield .., h => by simp [tgB] at h
  | .nm _, .YieldFrom .., h => by simp [tgB] at h
  | .nm _, .Compare .., h => by simp [tgB] at h
  | .nm _, .Call .., h => by simp [tgB] at h
  | .nm _, .FormattedValue .., h => by simp [tgB] at h
  | .nm _, .JoinedStr .., h => by simp [tgB] at h
  | .nm _, .Constant .., h => by simp [tgB] at h
  | .nm _, .Attribute .., h => by simp [tgB] at h
  | .nm _, .Subscript .., h => by simp [tgB] at h
  | .nm _, .Starred .., h => by simp [tgB] at h
  | .nm _, .List .., h => by simp [tgB] at h
  | .nm _, .Tuple .., h => by simp [tgB] at h
  | .nm _, .Slice .., h => by simp [tgB] at h
  | .tp _, .Name .., h => by simp [tgB] at h
  | .tp _, .BoolOp .., h => by simp [tgB] at h
  | .tp _, .NamedExpr .., h => by simp [tgB] at h
  | .tp _, .BinOp .., h => by simp [tgB] at h
  | .tp _, .UnaryOp .., h => by simp [tgB] at h
  | .tp _, .Lambda .., h => by simp [tgB] at h
  | .tp _, .IfExp .., h => by simp [tgB] at h
  | .tp _, .Dict .., h => by simp [tgB] at h
  | .tp _, .Set .., h => by simp [tgB] at h
  | .tp _, .ListComp .., h => by simp [tgB] at h
  | .tp _, .SetComp .., h => by simp [tgB] at h
  | .tp _, .DictComp .., h => by simp [tgB] at h
  | .tp _, .GeneratorExp .., h => by simp [tgB] at h
  | .tp _, .Await .., h => by simp [tgB] at h
  | .tp _, .Yield .., h => by simp [tgB] at h
  | .tp _, .YieldFrom .., h => by simp [tgB] at h
  | .tp _, .Compare .., h => by simp [tgB] at h
  | .tp _, .Call .., h => by simp [tgB] at h
  | .tp _, .FormattedValue .., h => by simp [tgB] at h
  | .tp _, .JoinedStr .., h => by simp [tgB] at h
  | .tp _, .Constant .., h => by simp [tgB] at h
  | .tp _, .Attribute .., h => by simp [tgB] at h
  | .tp _, .Subscript .., h => by simp [tgB] at h
  | .tp _, .Starred .., h => by simp [tgB] at h
  | .tp _, .List .., h => by simp [tgB] at h
  | .tp _, .Slice .., h => by simp [tgB] at h
theorem dgs_of {c : Cc} {X : Cx} (hX : InC c X) : ∀ (ts : List Tg) (es : List Expr), tgsB c ts es = true → DGs X ts es
  | [], [], _ => by
    refine ⟨_, pgs_nil, rfl, rfl, fun Rl Hs H ρ σ vs ds Q hs sub r hd ρ' e hq => ?_⟩
    cases ds with
    | nil => cases hd; cases e; exact ⟨rfl, hq _ r⟩
    | cons d ds => cases e
  | t :: ts, e :: es, h => by
    rw [tgsB, Bool.and_eq_true, Bool.and_eq_true] at h
    obtain ⟨⟨h1, h2⟩, h3⟩ := h
    obtain ⟨g, hg, q⟩ := dg_of hX t e h1
    obtain ⟨gs, hgs, hl, hf, qs⟩ := dgs_of hX ts es h3
    refine ⟨_, pgs_cons hg hgs (by rw [assign_cons h2]; rfl), by rw [assign_cons h2]; simp [hl], by rw [assign_cons h2, List.findIdx?_cons, hf]; rfl, fun Rl Hs H ρ σ vs ds Q hs sub r hd ρ' ee hq => ?_⟩
    cases ds with
    | nil => cases ee
    | cons d ds =>
      cases hd with
      | @cons v vs _ _ hd1 hd2 =>
        have ee : (asgT t d ρ).bind (fun ρ' => asgT.asgTs ts ds ρ') = .ok ρ' := ee
        cases e1 : asgT t d ρ with
        | stuck => rw [e1] at ee; cases ee
        | exc c => rw [e1] at ee; cases ee
        | ok ρ1 =>
          rw [e1] at ee
          refine ⟨v, vs, rfl, q Rl Hs H ρ σ v d _ (hs.sub fun i hi => by simp [slotsL, hi]) sub r hd1 ρ1 e1 fun σ1 r1 => ?_⟩
          exact qs Rl Hs H ρ1 σ1 vs ds Q (hs.sub fun i hi => by simp [slotsL, hi]) sub r1 hd2 ρ' ee hq
  | [], _ :: _, h => by simp [tgsB] at h
  | _ :: _, [], h => by simp [tgsB] at h
theorem asgTs_len : ∀ (ts : List Tg) (ds : List PyData) (ρ ρ' : Env), asgT.asgTs ts ds ρ = .ok ρ' → ds.length = ts.length
  | [], [], _, _, _ => rfl
  | t :: ts, d :: ds, ρ, ρ', e => by
    have e : (asgT t d ρ).bind (fun ρ' => asgT.asgTs ts ds ρ') = .ok ρ' := e
    cases e1 : asgT t d ρ with
    | stuck => rw [e1] at e; cases e
    | exc c => rw [e1] at e; cases e
    | ok ρ1 => rw [e1] at e; simp [asgTs_len ts ds ρ1 ρ' e]
  | [], _ :: _, _, _, e => by cases e
  | _ :: _, [], _, _, e => by cases e
end
end QB
/-! ### comprehensions -/
namespace QB
open PySem L2
/-! #### the readings by data, one for all contexts -/
abbrev ExcM (mg : Str → Option Value) (W : WX) (σ : St) : Str → Hp → Prop := fun c H' => ∀ C, mg c = some (.ref C) → W (.ref C) none σ H'
def tDE (mg : Str → Option Value) (W : WX) (m : Env → R PyData) : TE := fun σ H Q => ∃ ρ Hs, Rel0 ρ σ Hs H ∧ PostG (ExcM mg W σ) Hs H (m ρ) okD Q
def tDT (mg : Str → Option Value) (W : WX) (m : Env → R Bool) : TT := fun σ H Q => ∃ ρ Hs, Rel0 ρ σ Hs H ∧ PostG (ExcM mg W σ) Hs H (m ρ) okB Q
def gD (tg : Tg) : TG := fun v σ H Q => ∃ (Rl : Env → St → Prop) (Hs : Hp) (ρ ρ' : Env) (d : PyData), Stores Hs tg.slots Rl ∧ Same Hs H ∧ Rl ρ σ ∧ Dd Hs v d ∧ asgT tg d ρ = .ok ρ' ∧ ∀ σ', Rl ρ' σ' → Q σ' H
section
variable {X : Cx} {W : WX}
theorem DE.pe {e : Expr} {m : Env → R PyData} (h : DE X W e m) : PE X e (tDE X.mg W m) := by
  obtain ⟨t, p, q⟩ := h
  exact ⟨fun pins s σ H Q I ht => by obtain ⟨ρ, Hs, r, hp⟩ := ht; exact p.run pins s σ H Q I (q ρ σ Hs H Q r hp)⟩
theorem DT.pt {e : Expr} {m : Env → R Bool} (h : DT X W e m) : PT X e (tDT X.mg W m) := by
  obtain ⟨t, p, q⟩ := h
  exact ⟨fun pins s σ H Q I ht => by obtain ⟨ρ, Hs, r, hp⟩ := ht; exact p.run pins s σ H Q I (q ρ σ Hs H Q r hp)⟩
theorem DG.pg {tg : Tg} {e : Expr} (h : DG X tg e) : PG X e (gD tg) := by
  obtain ⟨g, p, q⟩ := h
  exact ⟨fun pins s σ H v u Q I rv ht => by
    obtain ⟨Rl, Hs, ρ, ρ', d, h1, h2, h3, h4, h5, h6⟩ := ht
    exact p.run pins s σ H v u Q I rv (q Rl Hs H ρ σ v d Q h1 h2 h3 h4 ρ' h5 h6)⟩
end
/-! #### wiped slots -/
theorem wipe_set {i : Nat} {x : Option V} : ∀ (vs : List Nat) (σ : St), i ∈ vs → wipe (σ.set i x) vs = wipe σ vs
  | [], _, h => nomatch h
  | v :: vs, σ, h => by
    by_cases hv : i ∈ vs
    · show (wipe (σ.set i x) vs).set v none = (wipe σ vs).set v none
      rw [wipe_set vs σ hv]
    · have e : i = v := by
        rcases List.mem_cons.mp h with e | e
        · exact e
        · exact absurd e hv
      subst e
      show (wipe (σ.set i x) vs).set i none = (wipe σ vs).set i none
      have comm : ∀ (vs : List Nat) (σ : St), i ∉ vs → wipe (σ.set i x) vs = (wipe σ vs).set i x := by
        intro vs
        induction vs with
        | nil => intro σ _; rfl
        | cons w vs ih =>
          intro σ hw
          have h1 : i ≠ w := fun z => hw (by simp [z])
          show (wipe (σ.set i x) vs).set w none = ((wipe σ vs).set w none).set i x
          rw [ih σ (fun z => hw (List.mem_cons_of_mem _ z)), List.set_comm _ _ h1]
      rw [comm vs σ hv, List.set_set]
theorem wipe_idem : ∀ (vs ws : List Nat) (σ : St), (∀ v ∈ vs, v ∈ ws) → wipe (wipe σ vs) ws = wipe σ ws
  | [], _, _, _ => rfl
  | v :: vs, ws, σ, h => by
    show wipe ((wipe σ vs).set v none) ws = wipe σ ws
    rw [wipe_set ws _ (h v (by simp)), wipe_idem vs ws σ fun w hw => h w (List.mem_cons_of_mem _ hw)]
theorem wipeS_len : ∀ (vs : List Nat) (ρ : Env), (wipeS ρ vs).length = ρ.length
  | [], _ => rfl
  | v :: vs, ρ => by show ((wipeS ρ vs).set v .no).length = _; rw [List.length_set, wipeS_len vs ρ]
theorem wipeS_da : ∀ (vs : List Nat) (ρ : Env) (j : Nat) (d : PyData), (wipeS ρ vs)[j]? = some (.da d) → ρ[j]? = some (.da d) ∧ j ∉ vs
  | [], _, _, _, h => ⟨h, by simp⟩
  | v :: vs, ρ, j, d, h => by
    have h : ((wipeS ρ vs).set v .no)[j]? = some (.da d) := h
    by_cases e : v = j
    · subst e
      by_cases hl : v < (wipeS ρ vs).length
      · rw [List.getElem?_set_self hl] at h; cases h
      · rw [List.getElem?_eq_none (by simpa using hl)] at h; cases h
    · rw [List.getElem?_set_ne e] at h
      obtain ⟨h1, h2⟩ := wipeS_da vs ρ j d h
      exact ⟨h1, by simp only [List.mem_cons, not_or]; exact ⟨fun z => e z.symm, h2⟩⟩
theorem Rel0.wipe {ρ : Env} {σ : St} {Hs H : Hp} (r : Rel0 ρ σ Hs H) (vs : List Nat) : Rel0 (wipeS ρ vs) (wipe σ vs) Hs H :=
  ⟨r.sub, by rw [wipe_length, wipeS_len]; exact r.len, fun j d h => by
    obtain ⟨h1, h2⟩ := wipeS_da vs ρ j d h
    obtain ⟨v, e, hd⟩ := r.slot j d h1
    exact ⟨v, by rw [wipe_out h2]; exact e, hd⟩⟩
theorem Rel0.store {ρ : Env} {σ : St} {Hs H : Hp} {i : Nat} {v : V} {d : PyData} (r : Rel0 ρ σ Hs H) (h : Dd Hs v d) : Rel0 (ρ.set i (.da d)) (σ.set i (some v)) Hs H :=
  ⟨r.sub, by simp [r.len], fun j e hj => by
    by_cases q : i = j
    · subst q
      by_cases hl : i < ρ.length
      · rw [List.getElem?_set_self hl] at hj
        cases hj
        exact ⟨v, List.getElem?_set_self (by rw [r.len]; exact hl), h⟩
      · rw [List.getElem?_eq_none (by simpa using hl)] at hj; cases hj
    · rw [List.getElem?_set_ne q] at hj
      obtain ⟨w, h1, h2⟩ := r.slot j e hj
      exact ⟨w, by rw [List.getElem?_set_ne q]; exact h1, h2⟩⟩
/-! #### a comprehension -/
theorem compL_cons {f : PyData → R (Option PyData)} {d : PyData} {ds rs : List PyData} (h : compL f (d :: ds) = .ok rs) : ∃ o r, f d = .ok o ∧ compL f ds = .ok r ∧ rs = (match o with | some x => x :: r | none => r) := by
  have h : (f d).bind (fun o => (compL f ds).bind fun r => .ok (match o with | some x => x :: r | none => r)) = .ok rs := h
  cases h1 : f d with
  | stuck => rw [h1] at h; cases h
  | exc c => rw [h1] at h; cases h
  | ok o =>
    rw [h1] at h
    cases h2 : compL f ds with
    | stuck => rw [h2] at h; cases h
    | exc c => rw [h2] at h; cases h
    | ok r => rw [h2] at h; cases h; exact ⟨o, r, rfl, rfl, rfl⟩
abbrev W0 : WX := fun _ _ _ _ => False
section
variable {X : Cx} {W : WX} {tgE iterE eltE : Expr} {ifs : List Expr} {scope : Scope} {pos : Pos} {own : List (Str × Nat)} {tg : Tg} {mi : Env → R (List PyData)} {mt : Env → R Bool} {me : Env → R PyData}
def compF (tg : Tg) (vs : List Nat) (mt : Env → R Bool) (me : Env → R PyData) (ρ : Env) : PyData → R (Option PyData) := fun d =>
  (asgT tg d (wipeS ρ vs)).bind fun ρ1 => (mt ρ1).bind fun k => cond k ((me ρ1).bind fun x => .ok (some x)) (.ok none)
theorem ext_own {Hs H Hs' H' : Hp} {D : Addr} {xs : List V} (e : Ext Hs H Hs' H') (hD : H D = none) (hs : Hs' D = none) (hd : H' D = some (.lst xs)) : Ext Hs H (upd Hs' D (.lst xs)) H' :=
  ⟨e.s.trans (same_new hs), e.h, fun b o h => by
    by_cases q : b = D
    · subst q; rw [upd_same] at h; rw [hd]; exact h
    · rw [upd_ne q] at h; exact e.sub b o h, fun a h1 h2 => by
    have : a ≠ D := fun z => h1 (by rw [z]; exact hD)
    rw [upd_ne this]; exact e.new a h1 h2⟩
theorem comp_core {σ : St} {ρ : Env} {Hs H1 : Hp} {J : L2.It} {ds rs : List PyData} {Q : VK} (r : Rel0 ρ σ Hs H1) (w : WalkD J Hs ds) (hlim : ds.length ≤ lim) (hsl : ∀ i ∈ tg.slots, i ∈ own.map (·.2))
    (hc : compL (compF tg (own.map (·.2)) mt me ρ) ds = .ok rs) (D : Addr) (hD : H1 D = none) (hq : ∀ vs Hs' H', Ext Hs H1 Hs' H' → Hs' D = none → H' D = some (.lst vs) → DdAll Hs' vs rs → Q (.ref D) H') :
    ∃ Wn : Nat → Nat → Hp → Prop, (∃ m, Wn 0 m (upd H1 D (.lst []))) ∧ ∀ i m H, Wn i m H →
      (J.stop i H ∧ Q (.ref D) H) ∨ (J.go i H ∧ ∃ Nx : Hp → Prop, (∀ H', Nx H' → ∃ m', m' < m ∧ Wn (i + 1) m' H') ∧ ∀ x H', J.yld i H x H' → gD tg x (wipe σ (own.map (·.2))) H' fun σ2 H2 => wipe σ2 (own.map (·.2)) = wipe σ (own.map (·.2)) ∧ tDT X.mg W0 mt σ2 H2 fun b H3 =>
        if b = true then tDE X.mg W0 me σ2 H3 fun y H4 => ∃ acc, H4 D = some (.lst acc) ∧ acc.length < sizeLine ∧ Nx (upd H4 D (.lst (acc ++ [y]))) else Nx H3) := by
  refine lc_it w (Qd := fun H => Q (.ref D) H) (fun i H' => ∃ Hs' vs es r', Ext Hs H1 Hs' H' ∧ Hs' D = none ∧ H' D = some (.lst vs) ∧ DdAll Hs' vs es ∧ es.length ≤ i ∧ compL (compF tg (own.map (·.2)) mt me ρ) (ds.drop i) = .ok r' ∧ rs = es ++ r')
    ⟨Hs, [], [], rs, Ext.aside r.sub hD, r.sub.free hD, upd_same, .nil, Nat.le_refl _, hc, rfl⟩ (fun i H' _ p => ?_) (fun i x H2 H3 hi p y => ?_) fun H' p => ?_
  · obtain ⟨Hs', vs, es, r', e, _⟩ := p
    exact e.s.trans e.sub
  · obtain ⟨Hs', vs, es, r', e, d1, d2, hdd, hl, hr, hrs⟩ := p
    obtain ⟨d, hd, hy⟩ := y
    obtain ⟨Hs2, e2, hx⟩ := hy Hs' e.s e.sub
    have hds : ds.drop i = d :: ds.drop (i + 1) := by
      have hi' : i < ds.length := hi
      rw [List.drop_eq_getElem_cons hi']
      rw [List.getElem?_eq_getElem hi'] at hd
      rw [Option.some.inj hd]
    rw [hds] at hr
    obtain ⟨o, r2, ho, hr2, hr'⟩ := compL_cons hr
    have hn2 : Hs2 D = none := e2.new D (by rw [d2]; simp) d1
    have hD3 : H3 D = some (.lst vs) := e2.h _ _ d2
    have e3 : Ext Hs H1 Hs2 H3 := e.trans e2
    unfold compF at ho
    cases ha : asgT tg d (wipeS ρ (own.map (·.2))) with
    | stuck => rw [ha] at ho; cases ho
    | exc c => rw [ha] at ho; cases ho
    | ok ρ1 =>
    rw [ha] at ho
    cases hk : mt ρ1 with
    | stuck => rw [R.bind_ok, hk] at ho; cases ho
    | exc c => rw [R.bind_ok, hk] at ho; cases ho
    | ok k =>
    rw [R.bind_ok, hk, R.bind_ok] at ho
    refine ⟨fun ρ' σ' => Rel0 ρ' σ' Hs2 H3 ∧ wipe σ' (own.map (·.2)) = wipe σ (own.map (·.2)), Hs2, wipeS ρ (own.map (·.2)), ρ1, d, ?_, e2.sub, ⟨(r.ext e3).wipe _, wipe_idem _ _ _ fun _ h => h⟩, hx, ha, fun σ2 h2 => ⟨h2.2, ρ1, Hs2, h2.1, ?_⟩⟩
    · intro ρ' σ' j v e' hj hh hv
      exact ⟨hh.1.store hv, by rw [wipe_set _ _ (hsl j hj)]; exact hh.2⟩
    · rw [hk]
      intro b Hs4 H4 e4 hb
      subst hb
      have hn4 : Hs4 D = none := e4.new D (by rw [hD3]; simp) hn2
      have hD4 : H4 D = some (.lst vs) := e4.h _ _ hD3
      cases b with
      | false =>
        rw [if_neg (by decide)]
        have ho : (R.ok none : R (Option PyData)) = .ok o := ho
        cases ho
        exact ⟨Hs4, vs, es, r2, e3.trans e4, hn4, hD4, dpaMono (e2.s.trans e4.s) es hdd, Nat.le_succ_of_le hl, hr2, by rw [hrs, hr']⟩
      | true =>
        rw [if_pos rfl]
        have ho : ((me ρ1).bind fun x => (.ok (some x) : R (Option PyData))) = .ok o := ho
        cases hm : me ρ1 with
        | stuck => rw [hm] at ho; cases ho
        | exc c => rw [hm] at ho; cases ho
        | ok x1 =>
        rw [hm] at ho
        have ho : (R.ok (some x1) : R (Option PyData)) = .ok o := ho
        cases ho
        refine ⟨ρ1, Hs4, h2.1.ext e4, ?_⟩
        rw [hm]
        intro y Hs5 H5 e5 hy5
        have hn5 : Hs5 D = none := e5.new D (by rw [hD4]; simp) hn4
        have hD5 : H5 D = some (.lst vs) := e5.h _ _ hD4
        have e6 : Ext Hs H1 Hs5 H5 := (e3.trans e4).trans e5
        have hsm : DdAll Hs5 vs es := dpaMono ((e2.s.trans e4.s).trans e5.s) es hdd
        refine ⟨vs, hD5, ?_, Hs5, vs ++ [y], es ++ [x1], r2, ⟨e6.s, fun b o h => ?_, fun b o h => ?_, e6.new⟩, hn5, upd_same, dpaApp hsm (.cons hy5 .nil), by rw [List.length_append]; simp; omega, hr2, by rw [hrs, hr', List.append_assoc]; rfl⟩
        · have := dpaLen hsm
          have : (lim : Nat) = 1000000 := rfl
          have := sizeLine_eq
          have hi' : i < ds.length := hi
          omega
        · have : b ≠ D := fun z => by rw [z, hD] at h; cases h
          rw [upd_ne this]; exact e6.h b o h
        · have : b ≠ D := fun z => by rw [z, hn5] at h; cases h
          rw [upd_ne this]; exact e6.sub b o h
  · obtain ⟨Hs', vs, es, r', e, d1, d2, hdd, hl, hr, hrs⟩ := p
    rw [List.drop_length] at hr
    have hr : (R.ok [] : R (List PyData)) = .ok r' := hr
    cases hr
    rw [List.append_nil] at hrs
    subst hrs
    exact hq vs Hs' H' e d1 d2 hdd
theorem comp_read {te : TE} (hi : DI X W tgE iterE mi) (hsl : ∀ i ∈ tg.slots, i ∈ own.map (·.2)) :
    ∃ wi, PI X tgE iterE wi ∧ ∀ ρ σ Hs H Q, Rel0 ρ σ Hs H → PostG (Exc X W σ) Hs H ((mi ρ).bind fun ds => R.when (lok ds) ((compL (compF tg (own.map (·.2)) mt me ρ) ds).firm.bind fun r => .ok (.list r))) okD Q → tLc wi (gD tg) (tDT X.mg W0 mt) (tDE X.mg W0 me) (own.map (·.2)) σ H Q := by
  obtain ⟨wi, pi, qi⟩ := hi
  refine ⟨wi, pi, fun ρ σ Hs H Q r h => ?_⟩
  refine qi ρ σ Hs H _ r (h.seq fun ds J Hs1 H1 _ e1 w h1 => ?_)
  obtain ⟨hlim, h1⟩ := PostG.when h1
  cases hc : compL (compF tg (own.map (·.2)) mt me ρ) ds with
  | stuck => rw [hc] at h1; exact h1.elim
  | exc c => rw [hc] at h1; exact h1.elim
  | ok rs =>
    rw [hc] at h1
    have h1 : PostG (Exc X W σ) Hs1 H1 (.ok (.list rs)) okD Q := h1
    intro D hD
    exact comp_core (X := X) (r.ext e1) w (of_decide_eq_true hlim) hsl hc D hD fun vs Hs' H' e d1 d2 hdd => h1 (.ref D) (upd Hs' D (.lst vs)) H' (ext_own e hD d1 d2) (.lst (.inl upd_same) (dpaMono (same_new d1) _ hdd))
theorem de_comp (hcalm : X.calm = true) (hN : X.N.Nodup) (hi : DI X W tgE iterE mi) (ok : BlkOk X.N X.env.scope scope own) (hsl : ∀ i ∈ tg.slots, i ∈ own.map (·.2))
    (hg : ∀ (s : Shared) (H : Hp) (C : Addr) (cl : List (Str × Addr)) (fp : List Addr), DG (X.blk s H scope (compEnvC scope cl C X.env) fp) tg tgE)
    (ht : ∀ (s : Shared) (H : Hp) (C : Addr) (cl : List (Str × Addr)) (fp : List Addr), PTs (X.blk s H scope (compEnvC scope cl C X.env) fp) ifs (tDT X.mg W0 mt))
    (he : ∀ (s : Shared) (H : Hp) (C : Addr) (cl : List (Str × Addr)) (fp : List Addr), DE (X.blk s H scope (compEnvC scope cl C X.env) fp) W0 eltE me) (hs : ∀ x, foldedSetIterable iterE X.env x = pure x) :
    DE X W (.ListComp eltE [⟨tgE, iterE, ifs, 0⟩] scope pos) (fun ρ => (mi ρ).bind fun ds => R.when (lok ds) ((compL (compF tg (own.map (·.2)) mt me ρ) ds).firm.bind fun r => .ok (.list r))) := by
  obtain ⟨wi, pi, q⟩ := comp_read (X := X) (W := W) (te := tDE X.mg W0 me) (mt := mt) (me := me) hi hsl
  exact ⟨_, pe_lc hcalm hN pi ok (fun s H C cl fp => (hg s H C cl fp).pg) ht (fun s H C cl fp => (he s H C cl fp).pe) hs, q⟩
end
end QB
/-! ### calls of defs, chains, statements -/
namespace QB
open PySem L2
/-! #### a def's promise -/
def SpD (mg : Str → Option Value) (m : List PyData → R PyData) : Sp := fun vs H Q E => ∃ Hs ds, Same Hs H ∧ DdAll Hs vs ds ∧ PostG (fun c H' => ∀ C, mg c = some (.ref C) → E (.ref C) none H') Hs H (m ds) okD Q
def Cal (P : Program) (w : World) (K : PySem.W.Frag) (mg : Str → Option Value) (base : Heap) (k : Nat) (x : Str) (m : List PyData → R PyData) : Prop :=
  ∃ f fd ps, FnOk P w K mg base (L2.CX P w) k f fd ps (SpD mg m) ∧ mg x = some (.ref f) ∧ PySem.W.keepIn K (.ref f) = true ∧ Binds K fd ps []
theorem Cal.mono {P : Program} {w : World} {K : PySem.W.Frag} {mg : Str → Option Value} {base : Heap} {j k : Nat} {x : Str} {m : List PyData → R PyData} (c : Cal P w K mg base j x m) (h : j ≤ k) : Cal P w K mg base k x m :=
  let ⟨f, fd, ps, F, r⟩ := c; ⟨f, fd, ps, F.mono h, r⟩
section
variable {X : Cx} {W : WX} {a b c : Expr} {ma mb mc : Env → R PyData} {pos : Pos}
theorem de_fn {x : Str} {p : Pos} {e : Expr} {es : List Expr} {k : Nat} {m : List PyData → R PyData} {ms : Env → R (List PyData)} (C : Cal X.prog X.w X.K X.mg X.base k x m) (hr : Room k X.A) (tk : Takes X W) (hg : Gl X x) (hdb : (x == ("__debug__" : Str)) = false)
    (hs : (e :: es).all noStar = true) (ha : DA X W (e :: es) ms) : DE X W (.Call (.Name x p) (e :: es) [] pos) (fun ρ => (ms ρ).bind m) := by
  obtain ⟨f, fd, ps, F, hm, hk, hb⟩ := C
  obtain ⟨t, pa, q⟩ := ha
  rw [List.all_cons, Bool.and_eq_true] at hs
  refine ⟨_, pe_callS F hr hg hm hk hb (fun σ => passAt tk σ) pa hdb (star_cons hs.1) (noplain hs.2), fun ρ σ Hs H Q r h => ?_⟩
  exact q ρ σ Hs H _ r (h.seq fun ds vs Hs1 H1 _ e1 o1 h1 => ⟨Hs1, ds, e1.sub, o1, h1⟩)
theorem pe_callS0 {x : Str} {p pos : Pos} {CX : CXT} {k : Nat} {f : Addr} {fd : FuncData} {ps : List Str} {sp : Sp} {E : St → XK} (F : FnOk X.prog X.w X.K X.mg X.base CX k f fd ps sp) (hr : Room k X.A) (hg : Gl X x) (hm : X.mg x = some (.ref f)) (hk : PySem.W.keepIn X.K (.ref f) = true) (hb : Binds X.K fd ps [])
    (hx : ∀ σ, PassesAt CX X σ (E σ)) (hdb : (x == ("__debug__" : Str)) = false) : PE X (.Call (.Name x p) [] [] pos) (fun σ H Q => sp [] H Q (E σ)) := by
  refine ⟨fun pins s σ H Q I h => ?_⟩
  refine wpAny_Call_Name_kw (ld_glob I hg hm ?_ hdb)
  exact PySem.W.callWith_K0 I.kIn hk (run_fnS (us := []) (vs := []) F hr hb (hx σ) I .nil h)
theorem de_fn0 {x : Str} {p : Pos} {k : Nat} {m : List PyData → R PyData} (C : Cal X.prog X.w X.K X.mg X.base k x m) (hr : Room k X.A) (tk : Takes X W) (hg : Gl X x) (hdb : (x == ("__debug__" : Str)) = false) : DE X W (.Call (.Name x p) [] [] pos) (fun ρ => m []) := by
  obtain ⟨f, fd, ps, F, hm, hk, hb⟩ := C
  refine ⟨_, pe_callS0 F hr hg hm hk hb (fun σ => passAt tk σ) hdb, fun ρ σ Hs H Q r h => ?_⟩
  exact ⟨Hs, [], r.sub, .nil, h⟩
/-! #### a chain of two comparisons -/
theorem chain_read {o o' : Bi} {ta tb tc : TE} {ρ : Env} {σ : St} {Hs H : Hp} {Q : VK} (qa : ∀ ρ σ Hs H Q, Rel0 ρ σ Hs H → PostG (Exc X W σ) Hs H (ma ρ) okD Q → ta σ H Q) (qb : ∀ ρ σ Hs H Q, Rel0 ρ σ Hs H → PostG (Exc X W σ) Hs H (mb ρ) okD Q → tb σ H Q)
    (qc : ∀ ρ σ Hs H Q, Rel0 ρ σ Hs H → PostG (Exc X W σ) Hs H (mc ρ) okD Q → tc σ H Q) (r : Rel0 ρ σ Hs H)
    (h : PostG (Exc X W σ) Hs H ((ma ρ).bind fun d => (mb ρ).bind fun e => (boolR (bi2 o d e)).bind fun k => cond k ((mc ρ).bind fun f => bi2 o' e f) (.ok (.bool false))) okD Q) : tChain (rD X (bi2 o)) (rD X (bi2 o')) ta tb tc σ H Q := by
  refine qa ρ σ Hs H _ r (h.seq fun d x Hs1 H1 _ e1 o1 h1 => ?_)
  refine qb ρ σ Hs1 H1 _ (r.ext e1) (h1.seq fun e y Hs2 H2 _ e2 o2 h2 => ?_)
  refine ⟨Hs2, d, e, e2.sub, dpMono e2.s d o1, o2, ?_⟩
  rw [bool_bind] at h2
  have h3 : PostG (Exc X W σ) Hs2 H2 (bi2 o d e) okD (fun z H3 => ∃ k, z = V.bl k ∧ if k = true then tc σ H3 fun w' H4 => rD X (bi2 o') y w' H4 Q else Q (.bl false) H3) := by
    refine PostG.seq h2 fun dd z Hs3 H3 _ e3 o3 h4 => ?_
    cases dd with
    | bool k =>
      cases o3
      refine ⟨k, rfl, ?_⟩
      cases k with
      | false => rw [if_neg (by decide)]; exact h4 (.bl false) Hs3 H3 (Ext.refl e3.sub) (.bl _)
      | true =>
        rw [if_pos rfl]
        have h4 : PostG (Exc X W σ) Hs3 H3 ((mc ρ).bind fun f => bi2 o' e f) okD Q := h4
        refine qc ρ σ Hs3 H3 _ ((r.ext e1).ext (e2.trans e3)) (h4.seq fun f w' Hs4 H4 _ e4 o4 h5 => ?_)
        exact ⟨Hs4, e, f, e4.sub, dpMono (e3.s.trans e4.s) e o2, o4, h5.firm (bi2_noexc _ e f)⟩
    | none => exact h4.elim
    | int i => exact h4.elim
    | str z => exact h4.elim
    | list z => exact h4.elim
    | tuple z => exact h4.elim
    | dict z => exact h4.elim
  exact h3.firm (bi2_noexc _ d e)
theorem de_chn {op op' : CmpOp} {o o' : Bi} (ho : OpR X (compareOp op) (rD X (bi2 o))) (ho' : OpR X (compareOp op') (rD X (bi2 o'))) (ha : DE X W a ma) (hb : DE X W b mb) (hc : DE X W c mc) (hm : lastMarks [op, op'] [b, c] = false) :
    DE X W (.Compare a [op, op'] [b, c] pos) (fun ρ => (ma ρ).bind fun d => (mb ρ).bind fun e => (boolR (bi2 o d e)).bind fun k => cond k ((mc ρ).bind fun f => bi2 o' e f) (.ok (.bool false))) := by
  obtain ⟨ta, pa, qa⟩ := ha
  obtain ⟨tb, pb, qb⟩ := hb
  obtain ⟨tc, pc, qc⟩ := hc
  exact ⟨_, pe_chain ho ho' pa pb pc hm, fun ρ σ Hs H Q r h => chain_read qa qb qc r h⟩
theorem dt_chn {op op' : CmpOp} {o o' : Bi} (ho : OpR X (compareOp op) (rD X (bi2 o))) (ho' : OpR X (compareOp op') (rD X (bi2 o'))) (ha : DE X W a ma) (hb : DE X W b mb) (hc : DE X W c mc) (hm : lastMarks [op, op'] [b, c] = false) :
    DT X W (.Compare a [op, op'] [b, c] pos) (fun ρ => boolR ((ma ρ).bind fun d => (mb ρ).bind fun e => (boolR (bi2 o d e)).bind fun k => cond k ((mc ρ).bind fun f => bi2 o' e f) (.ok (.bool false)))) := by
  obtain ⟨ta, pa, qa⟩ := ha
  obtain ⟨tb, pb, qb⟩ := hb
  obtain ⟨tc, pc, qc⟩ := hc
  refine ⟨_, pt_chain ho ho' pa pb pc hm, fun ρ σ Hs H Q r h => chain_read qa qb qc r (PostG.seq h fun d x Hs1 H1 _ e1 o1 h1 => ?_)⟩
  cases d with
  | bool k => cases o1; exact ⟨k, rfl, h1 k Hs1 H1 (Ext.refl e1.sub) rfl⟩
  | none => exact h1.elim
  | int i => exact h1.elim
  | str z => exact h1.elim
  | list z => exact h1.elim
  | tuple z => exact h1.elim
  | dict z => exact h1.elim
end
/-! #### the state between statements -/
structure Rel (Hs0 H0 : Hp) (ρ : Env) (σ : St) (Hs H : Hp) : Prop where
  base : Rel0 ρ σ Hs H
  grow : Ext Hs0 H0 Hs H
  own : ∀ (i : Nat) ds, ρ[i]? = some (.ow ds) → ∃ l vs, σ[i]? = some (some (.ref l)) ∧ H l = some (.lst vs) ∧ Hs l = none ∧ H0 l = none ∧ DdAll Hs vs ds
  dist : ∀ (i j : Nat) ds es l, i ≠ j → ρ[i]? = some (.ow ds) → ρ[j]? = some (.ow es) → σ[i]? = some (some (.ref l)) → σ[j]? ≠ some (some (.ref l))
theorem Rel.ext {Hs0 H0 : Hp} {ρ : Env} {σ : St} {Hs H Hs' H' : Hp} (r : Rel Hs0 H0 ρ σ Hs H) (e : Ext Hs H Hs' H') : Rel Hs0 H0 ρ σ Hs' H' :=
  ⟨r.base.ext e, r.grow.trans e, fun i ds h => by
    obtain ⟨l, vs, h1, h2, h3, h4, h5⟩ := r.own i ds h
    exact ⟨l, vs, h1, e.h _ _ h2, e.new l (by rw [h2]; simp) h3, h4, dpaMono e.s ds h5⟩, r.dist⟩
theorem set_get {α : Type} {l : List α} {i j : Nat} {x y : α} (h : (l.set i x)[j]? = some y) : (i = j ∧ x = y ∧ i < l.length) ∨ (i ≠ j ∧ l[j]? = some y) := by
  by_cases e : i = j
  · subst e
    by_cases hl : i < l.length
    · rw [List.getElem?_set_self hl] at h; exact .inl ⟨rfl, Option.some.inj h, hl⟩
    · rw [List.getElem?_eq_none (by simpa using hl)] at h; cases h
  · rw [List.getElem?_set_ne e] at h; exact .inr ⟨e, h⟩
theorem Rel.store {Hs0 H0 : Hp} {ρ : Env} {σ : St} {Hs H : Hp} {i : Nat} {v : V} {d : PyData} (r : Rel Hs0 H0 ρ σ Hs H) (h : Dd Hs v d) : Rel Hs0 H0 (ρ.set i (.da d)) (σ.set i (some v)) Hs H :=
  ⟨r.base.store h, r.grow, fun j ds hj => by
    rcases set_get hj with ⟨_, q, _⟩ | ⟨e, q⟩
    · cases q
    · obtain ⟨l, vs, h1, h2⟩ := r.own j ds q
      exact ⟨l, vs, by rw [List.getElem?_set_ne e]; exact h1, h2⟩, fun j k ds es l hjk hj hk hs => by
    rcases set_get hj with ⟨_, q, _⟩ | ⟨e1, q1⟩
    · cases q
    · rcases set_get hk with ⟨_, q, _⟩ | ⟨e2, q2⟩
      · cases q
      · rw [List.getElem?_set_ne e1] at hs
        rw [List.getElem?_set_ne e2]
        exact r.dist j k ds es l hjk q1 q2 hs⟩
/-- a new list of the call's own goes into a slot -/
theorem Rel.storeOwn {Hs0 H0 : Hp} {ρ : Env} {σ : St} {Hs H : Hp} {i : Nat} {l : Addr} {vs : List V} {ds : List PyData} (r : Rel Hs0 H0 ρ σ Hs H) (h1 : H l = some (.lst vs)) (h2 : Hs l = none) (h3 : H0 l = none) (h4 : DdAll Hs vs ds)
    (h5 : ∀ j es, ρ[j]? = some (.ow es) → i ≠ j → σ[j]? ≠ some (some (.ref l))) : Rel Hs0 H0 (ρ.set i (.ow ds)) (σ.set i (some (.ref l))) Hs H :=
  ⟨⟨r.base.sub, by simp [r.base.len], fun j d hj => by
    rcases set_get hj with ⟨_, q, _⟩ | ⟨e, q⟩
    · cases q
    · obtain ⟨v, q1, q2⟩ := r.base.slot j d q
      exact ⟨v, by rw [List.getElem?_set_ne e]; exact q1, q2⟩⟩, r.grow, fun j es hj => by
    rcases set_get hj with ⟨e, q, hl⟩ | ⟨e, q⟩
    · cases q
      subst e
      exact ⟨l, vs, List.getElem?_set_self (by rw [r.base.len]; exact hl), h1, h2, h3, h4⟩
    · obtain ⟨l', vs', q1, q2⟩ := r.own j es q
      exact ⟨l', vs', by rw [List.getElem?_set_ne e]; exact q1, q2⟩, fun j k ds' es l' hjk hj hk hs => by
    rcases set_get hj with ⟨e, q, hl⟩ | ⟨e1, q1⟩
    · cases q
      subst e
      rcases set_get hk with ⟨e2, _, _⟩ | ⟨e2, q2⟩
      · exact absurd e2 hjk
      · rw [List.getElem?_set_self (by rw [r.base.len]; exact hl)] at hs
        cases hs
        rw [List.getElem?_set_ne e2]
        exact h5 k es q2 e2
    · rcases set_get hk with ⟨e, q, hl⟩ | ⟨e2, q2⟩
      · cases q
        subst e
        rw [List.getElem?_set_self (by rw [r.base.len]; exact hl)]
        rw [List.getElem?_set_ne e1] at hs
        intro z
        cases z
        exact h5 j ds' q1 e1 hs
      · rw [List.getElem?_set_ne e1] at hs
        rw [List.getElem?_set_ne e2]
        exact r.dist j k ds' es l' hjk q1 q2 hs⟩
/-- an own list grows -/
theorem Rel.grown {Hs0 H0 : Hp} {ρ : Env} {σ : St} {Hs H : Hp} {i : Nat} {l : Addr} {vs ws : List V} {ds es : List PyData} (r : Rel Hs0 H0 ρ σ Hs H) (hi : ρ[i]? = some (.ow ds)) (hs : σ[i]? = some (some (.ref l))) (h1 : H l = some (.lst vs)) (h2 : Hs l = none) (h3 : H0 l = none)
    (h4 : DdAll Hs ws es) : Rel Hs0 H0 (ρ.set i (.ow es)) σ Hs (upd H l (.lst ws)) := by
  have hil : i < ρ.length := (List.getElem?_eq_some_iff.mp hi).1
  have nl : ∀ b o, Hs b = some o → b ≠ l := fun b o q z => by rw [z, h2] at q; cases q
  refine ⟨⟨fun b o q => by rw [upd_ne (nl b o q)]; exact r.base.sub b o q, by simp [r.base.len], fun j d hj => ?_⟩, ⟨r.grow.s, fun b o q => ?_, fun b o q => by rw [upd_ne (nl b o q)]; exact r.grow.sub b o q, r.grow.new⟩, fun j e' hj => ?_, fun j k e1 e2 l' hjk hj hk hsj => ?_⟩
  · rcases set_get hj with ⟨_, q, _⟩ | ⟨e, q⟩
    · cases q
    · exact r.base.slot j d q
  · have : b ≠ l := fun z => by rw [z, h3] at q; cases q
    rw [upd_ne this]; exact r.grow.h b o q
  · rcases set_get hj with ⟨e, q, _⟩ | ⟨e, q⟩
    · cases q
      subst e
      exact ⟨l, ws, hs, upd_same, h2, h3, h4⟩
    · obtain ⟨l', vs', q1, q2, q3⟩ := r.own j e' q
      have : l' ≠ l := fun z => by
        subst z
        exact r.dist i j ds e' l' e hi q hs q1
      exact ⟨l', vs', q1, by rw [upd_ne this]; exact q2, q3⟩
  · have own' : ∀ (n : Nat) e', (ρ.set i (.ow es))[n]? = some (.ow e') → ∃ e'', ρ[n]? = some (.ow e'') := fun n e' h => by
      rcases set_get h with ⟨e, q, _⟩ | ⟨e, q⟩
      · subst e; exact ⟨ds, hi⟩
      · exact ⟨e', q⟩
    obtain ⟨f1, q1⟩ := own' j e1 hj
    obtain ⟨f2, q2⟩ := own' k e2 hk
    exact r.dist j k f1 f2 l' hjk q1 q2 hsj
/-- the ghost step: an own list is still from here on -/
theorem Rel.frz {Hs0 H0 : Hp} {ρ : Env} {σ : St} {Hs H : Hp} (r : Rel Hs0 H0 ρ σ Hs H) (i : Nat) : ∃ Hs', Rel Hs0 H0 (frzS ρ i) σ Hs' H ∧ Same Hs Hs' := by
  unfold frzS
  cases hi : ρ[i]? with
  | none => exact ⟨Hs, r, Same.refl _⟩
  | some sl =>
    cases sl with
    | no => exact ⟨Hs, r, Same.refl _⟩
    | da d => exact ⟨Hs, r, Same.refl _⟩
    | ow ds =>
      obtain ⟨l, vs, h1, h2, h3, h4, h5⟩ := r.own i ds hi
      have sm : Same Hs (upd Hs l (.lst vs)) := same_new h3
      refine ⟨upd Hs l (.lst vs), ⟨⟨fun b o q => ?_, by simp [r.base.len], fun j d hj => ?_⟩, ⟨r.grow.s.trans sm, r.grow.h, fun b o q => ?_, fun a q1 q2 => ?_⟩, fun j es hj => ?_, fun j k e1 e2 l' hjk hj hk hsj => ?_⟩, sm⟩
      · by_cases q' : b = l
        · subst q'; rw [upd_same] at q; rw [h2]; exact q
        · rw [upd_ne q'] at q; exact r.base.sub b o q
      · rcases set_get hj with ⟨e, q, _⟩ | ⟨e, q⟩
        · cases q
          subst e
          exact ⟨.ref l, h1, .lst (.inl upd_same) (dpaMono sm ds h5)⟩
        · obtain ⟨v, q1, q2⟩ := r.base.slot j d q
          exact ⟨v, q1, dpMono sm d q2⟩
      · by_cases q' : b = l
        · subst q'; rw [upd_same] at q; rw [h2]; exact q
        · rw [upd_ne q'] at q; exact r.base.sub b o q
      · have : a ≠ l := fun z => q1 (by rw [z]; exact h4)
        rw [upd_ne this]; exact r.grow.new a q1 q2
      · rcases set_get hj with ⟨e, q, _⟩ | ⟨e, q⟩
        · cases q
        · obtain ⟨l', vs', q1, q2, q3, q4, q5⟩ := r.own j es q
          have : l' ≠ l := fun z => by
            subst z
            exact r.dist i j ds es l' e hi q h1 q1
          exact ⟨l', vs', q1, q2, by rw [upd_ne this]; exact q3, q4, dpaMono sm es q5⟩
      · rcases set_get hj with ⟨e, q, _⟩ | ⟨e1', q1⟩
        · cases q
        · rcases set_get hk with ⟨e, q, _⟩ | ⟨e2', q2⟩
          · cases q
          · exact r.dist j k e1 e2 l' hjk q1 q2 hsj
/-! #### statements -/
/-- Hst: what stood still ahead of the statement still does -/
def PostS (mg : Str → Option Value) (W : WX) (Hs0 H0 Hst : Hp) (r : R Out) (D : Ends) : Prop := match r with
  | .ok (.nx ρ') => ∀ σ' Hs' H', Rel Hs0 H0 ρ' σ' Hs' H' → Same Hst Hs' → D.nx σ' H'
  | .ok (.rt d) => ∀ v Hs' H', Ext Hs0 H0 Hs' H' → Dd Hs' v d → D.rt v H'
  | .exc c => ∀ σ' Hs' H', Ext Hs0 H0 Hs' H' → ExcM mg W σ' c H'
  | .stuck => False
def DS (X : Cx) (W : WX) (st : Stmt) (m : Env → R Out) : Prop := ∃ t, PS X st t ∧ ∀ Hs0 H0 Hst ρ σ Hs H D, Rel Hs0 H0 ρ σ Hs H → Same Hst Hs → PostS X.mg W Hs0 H0 Hst (m ρ) D → t D σ H
def DSs (X : Cx) (W : WX) (st : List Stmt) (m : Env → R Out) : Prop := ∃ t, PSs X st t ∧ ∀ Hs0 H0 Hst ρ σ Hs H D, Rel Hs0 H0 ρ σ Hs H → Same Hst Hs → PostS X.mg W Hs0 H0 Hst (m ρ) D → t D σ H
section
variable {mg : Str → Option Value} {W : WX} {Hs0 H0 Hst : Hp}
/-- from what is wanted behind a statement to what is wanted behind its term -/
theorem PostS.bind {α β : Type} {r : R α} {g : α → R Out} {D : Ends} {σ : St} {Hs H : Hp} {ok : α → β → Hp → Prop} {Q : β → Hp → Prop} (e0 : Ext Hs0 H0 Hs H) (h : PostS mg W Hs0 H0 Hst (r.bind g) D)
    (k : ∀ a b Hs1 H1, r = .ok a → Ext Hs H Hs1 H1 → ok a b Hs1 → PostS mg W Hs0 H0 Hst (g a) D → Q b H1) : PostG (ExcM mg W σ) Hs H r ok Q := by
  cases r with
  | ok a => exact fun b Hs1 H1 e o => k a b Hs1 H1 rfl e o h
  | exc c => exact fun Hs1 H1 e => h σ Hs1 H1 (e0.trans e)
  | stuck => exact h.elim
theorem PostS.next {Hst' : Hp} {r : R Out} {g : Env → R Out} {D : Ends} {f : St → Hp → Prop} (h : PostS mg W Hs0 H0 Hst (r.next g) D) (k : ∀ ρ' σ' Hs' H', Rel Hs0 H0 ρ' σ' Hs' H' → Same Hst' Hs' → PostS mg W Hs0 H0 Hst (g ρ') D → f σ' H') : PostS mg W Hs0 H0 Hst' r { D with nx := f } := by
  cases r with
  | ok o =>
    cases o with
    | nx ρ' => exact fun σ' Hs' H' r sm => k ρ' σ' Hs' H' r sm h
    | rt d => exact h
  | exc c => exact h
  | stuck => exact h
/-- the ways out that no statement here takes -/
theorem PostS.same {r : R Out} {D D' : Ends} (h : PostS mg W Hs0 H0 Hst r D) (e1 : D.nx = D'.nx) (e2 : D.rt = D'.rt) : PostS mg W Hs0 H0 Hst r D' := by
  cases r with
  | ok o =>
    cases o with
    | nx ρ' => intro σ' Hs' H' r sm; rw [← e1]; exact h σ' Hs' H' r sm
    | rt d => intro v Hs' H' e hd; rw [← e2]; exact h v Hs' H' e hd
  | exc c => exact h
  | stuck => exact h
end
theorem asgT_noexc : ∀ (tg : Tg) (d : PyData) (ρ : Env) (c : Str), asgT tg d ρ ≠ .exc c
  | .nm i, d, ρ, c => by intro z; cases z
  | .tp ts, .tuple ds, ρ, c => by
    have all : ∀ (ts : List Tg), (∀ t ∈ ts, ∀ d ρ c, asgT t d ρ ≠ .exc c) → ∀ (ds : List PyData) ρ c, asgT.asgTs ts ds ρ ≠ .exc c := by
      intro ts
      induction ts with
      | nil => intro _ ds ρ c z; cases ds <;> cases z
      | cons t ts ih =>
        intro h ds ρ c z
        cases ds with
        | nil => cases z
        | cons d ds =>
          have z : (asgT t d ρ).bind (fun ρ' => asgT.asgTs ts ds ρ') = .exc c := z
          cases e : asgT t d ρ with
          | stuck => rw [e] at z; cases z
          | exc c' => exact h t (by simp) d ρ c' e
          | ok ρ1 => rw [e] at z; exact ih (fun t' h' => h t' (List.mem_cons_of_mem _ h')) ds ρ1 c z
    exact all ts (fun t ht d ρ c => asgT_noexc t d ρ c) ds ρ c
  | .tp _, .none, _, _ => by intro z; cases z
  | .tp _, .bool _, _, _ => by intro z; cases z
  | .tp _, .int _, _, _ => by intro z; cases z
  | .tp _, .str _, _, _ => by intro z; cases z
  | .tp _, .list _, _, _ => by intro z; cases z
  | .tp _, .dict _, _, _ => by intro z; cases z
section
variable {X : Cx} {W : WX} {pos : Pos}
theorem dss_nil : DSs X W [] (fun ρ => .ok (.nx ρ)) := ⟨_, pss_nil, fun Hs0 H0 Hst ρ σ Hs H D r sm h => h σ Hs H r sm⟩
theorem dss_cons {st : Stmt} {l : List Stmt} {m1 m2 : Env → R Out} (h1 : DS X W st m1) (h2 : DSs X W l m2) : DSs X W (st :: l) (fun ρ => (m1 ρ).next m2) := by
  obtain ⟨t1, p1, q1⟩ := h1
  obtain ⟨t2, p2, q2⟩ := h2
  refine ⟨_, pss_cons p1 p2, fun Hs0 H0 Hst ρ σ Hs H D r sm h => ?_⟩
  exact q1 Hs0 H0 Hst ρ σ Hs H _ r sm (h.next fun ρ' σ' Hs' H' r' sm' h' => q2 Hs0 H0 Hst ρ' σ' Hs' H' D r' sm' h')
theorem dss_frz {l : List Stmt} {i : Nat} {m : Env → R Out} (h : DSs X W l m) : DSs X W l (fun ρ => m (frzS ρ i)) := by
  obtain ⟨t, p, q⟩ := h
  refine ⟨t, p, fun Hs0 H0 Hst ρ σ Hs H D r sm h => ?_⟩
  obtain ⟨Hs', r', sm'⟩ := r.frz i
  exact q Hs0 H0 Hst _ σ Hs' H D r' (sm.trans sm') h
theorem ds_pass : DS X W (.Pass pos) (fun ρ => .ok (.nx ρ)) := ⟨_, ps_pass, fun Hs0 H0 Hst ρ σ Hs H D r sm h => h σ Hs H r sm⟩
theorem ds_ret {e : Expr} {m : Env → R PyData} (he : DE X W e m) : DS X W (.Return (some e) pos) (fun ρ => (m ρ).bind fun d => .ok (.rt d)) := by
  obtain ⟨t, p, q⟩ := he
  refine ⟨_, ps_ret p, fun Hs0 H0 Hst ρ σ Hs H D r sm h => ?_⟩
  exact q ρ σ Hs H _ r.base (h.bind r.grow fun d v Hs1 H1 _ e1 o1 h1 => h1 v Hs1 H1 (r.grow.trans e1) o1)
def noComp : Expr → Bool
  | .ListComp .. => false
  | .SetComp .. => false
  | .DictComp .. => false
  | _ => true
theorem swaps_no {e : Expr} {t : Option Expr} {n : Nat} {env : PySem.Env} (h : noComp e = true) : swapsWith e t n env = pure false := by
  cases e <;> first | rfl | cases h
theorem ds_evl {e : Expr} {m : Env → R PyData} (hc : noComp e = true) (he : DE X W e m) : DS X W (.Expr e pos) (fun ρ => (m ρ).bind fun _ => .ok (.nx ρ)) := by
  obtain ⟨t, p, q⟩ := he
  refine ⟨_, ps_expr p (swaps_no hc), fun Hs0 H0 Hst ρ σ Hs H D r sm h => ?_⟩
  exact q ρ σ Hs H _ r.base (h.bind r.grow fun d v Hs1 H1 _ e1 o1 h1 => h1 σ Hs1 H1 (r.ext e1) (sm.trans e1.s))
theorem ds_if {c : Expr} {a b : List Stmt} {mt : Env → R Bool} {m1 m2 : Env → R Out} (hc : DT X W c mt) (h1 : DSs X W a m1) (h2 : DSs X W b m2) : DS X W (.If c a b pos) (fun ρ => (mt ρ).bind fun k => cond k (m1 ρ) (m2 ρ)) := by
  obtain ⟨tc, pc, qc⟩ := hc
  obtain ⟨t1, p1, q1⟩ := h1
  obtain ⟨t2, p2, q2⟩ := h2
  refine ⟨_, ps_if pc p1 p2, fun Hs0 H0 Hst ρ σ Hs H D r sm h => ?_⟩
  refine qc ρ σ Hs H _ r.base (h.bind r.grow fun k x Hs1 H1 _ e1 o1 h1 => ?_)
  subst o1
  cases x with
  | true => rw [if_pos rfl]; exact q1 Hs0 H0 Hst ρ σ Hs1 H1 D (r.ext e1) (sm.trans e1.s) h1
  | false => rw [if_neg (by decide)]; exact q2 Hs0 H0 Hst ρ σ Hs1 H1 D (r.ext e1) (sm.trans e1.s) h1
theorem ds_whl {c : Expr} {body : List Stmt} {mt : Env → R Bool} {mb : Env → R Out} (n : Nat) (hp : PassesOwn (model X.prog X.w) X.A X.env X.xe) (hc : DT X W c mt) (hb : DSs X W body mb) : DS X W (.While c body [] pos) (fun ρ => loopW mt mb n ρ) := by
  obtain ⟨tc, pc, qc⟩ := hc
  obtain ⟨tb, pb, qb⟩ := hb
  refine ⟨_, ps_while hp pc pb, fun Hs0 H0 Hst ρ σ Hs H D r sm h => ?_⟩
  refine ⟨fun m σ' H' => ∃ ρ' Hs', Rel Hs0 H0 ρ' σ' Hs' H' ∧ Same Hst Hs' ∧ PostS X.mg W Hs0 H0 Hst (loopW mt mb m ρ') D, ⟨n, ρ, Hs, r, sm, h⟩, fun m σ' H' hw => ?_⟩
  obtain ⟨ρ', Hs', r', sm', h'⟩ := hw
  cases m with
  | zero => exact h'.elim
  | succ m =>
    have h' : PostS X.mg W Hs0 H0 Hst ((mt ρ').bind fun k => cond k ((mb ρ').next fun ρ'' => loopW mt mb m ρ'') (.ok (.nx ρ'))) D := h'
    refine qc ρ' σ' Hs' H' _ r'.base (h'.bind r'.grow fun k x Hs1 H1 _ e1 o1 h1 => ?_)
    subst o1
    cases x with
    | false => rw [if_neg (by decide)]; exact h1 σ' Hs1 H1 (r'.ext e1) (sm'.trans e1.s)
    | true =>
      rw [if_pos rfl]
      refine ⟨fun σ2 H2 => ∃ ρ2 Hs2, Rel Hs0 H0 ρ2 σ2 Hs2 H2 ∧ Same Hst Hs2 ∧ PostS X.mg W Hs0 H0 Hst (loopW mt mb m ρ2) D, fun σ2 H2 q => ⟨m, Nat.lt_succ_self _, q⟩, ?_⟩
      have h1 : PostS X.mg W Hs0 H0 Hst ((mb ρ').next fun ρ'' => loopW mt mb m ρ'') D := h1
      exact qb Hs0 H0 Hst ρ' σ' Hs1 H1 _ (r'.ext e1) (sm'.trans e1.s) ((h1.next fun ρ2 σ2 Hs2 H2 r2 s2 q2 => ⟨ρ2, Hs2, r2, s2, q2⟩).same rfl rfl)
theorem ds_for {tgE iterE : Expr} {body : List Stmt} {tg : Tg} {mi : Env → R (List PyData)} {mb : Env → R Out} (hp : PassesOwn (model X.prog X.w) X.A X.env X.xe) (hcalm : X.calm = true) (hi : DI X W tgE iterE mi) (hg : DG X tg tgE) (hb : DSs X W body mb) (hs : ∀ x, foldedSetIterable iterE X.env x = pure x) :
    DS X W (.For tgE iterE body [] pos) (fun ρ => (mi ρ).bind fun ds => loopF (fun d ρ => (asgT tg d ρ).bind fun ρ' => mb ρ') ds ρ) := by
  obtain ⟨wi, pi, qi⟩ := hi
  obtain ⟨tb, pb, qb⟩ := hb
  refine ⟨_, ps_for hp hcalm pi hg.pg pb hs, fun Hs0 H0 Hst ρ σ Hs H D r sm h => ?_⟩
  refine qi ρ σ Hs H _ r.base (h.bind r.grow fun ds J Hs1 H1 _ e1 w h1 => ?_)
  refine for_it w (fun i σ' H' => ∃ ρ' Hs', Rel Hs0 H0 ρ' σ' Hs' H' ∧ Same Hs1 Hs' ∧ PostS X.mg W Hs0 H0 Hst (loopF (fun d ρ => (asgT tg d ρ).bind fun ρ' => mb ρ') (ds.drop i) ρ') D) ⟨ρ, Hs1, r.ext e1, Same.refl _, h1⟩
    (fun i σ' H' _ p => let ⟨_, _, r', sm, _⟩ := p; sm.trans r'.base.sub) (fun i x σ' H' H2 hi p y => ?_) fun σ' H' p => ?_
  · obtain ⟨ρ', Hs', r', sm', h'⟩ := p
    obtain ⟨d, hd, hy⟩ := y
    obtain ⟨Hs2, e2, hx⟩ := hy Hs' sm' r'.base.sub
    have hi' : i < ds.length := hi
    have hds : ds.drop i = d :: ds.drop (i + 1) := by
      rw [List.drop_eq_getElem_cons hi']
      rw [List.getElem?_eq_getElem hi'] at hd
      rw [Option.some.inj hd]
    rw [hds] at h'
    have h' : PostS X.mg W Hs0 H0 Hst (((asgT tg d ρ').bind fun ρ' => mb ρ').next fun ρ2 => loopF (fun d ρ => (asgT tg d ρ).bind fun ρ' => mb ρ') (ds.drop (i + 1)) ρ2) D := h'
    cases ha : asgT tg d ρ' with
    | stuck => rw [ha] at h'; exact h'.elim
    | exc c => exact absurd ha (asgT_noexc tg d ρ' c)
    | ok ρ1 =>
      rw [ha] at h'
      have h' : PostS X.mg W Hs0 H0 Hst ((mb ρ1).next fun ρ2 => loopF (fun d ρ => (asgT tg d ρ).bind fun ρ' => mb ρ') (ds.drop (i + 1)) ρ2) D := h'
      refine ⟨fun ρ2 σ2 => Rel Hs0 H0 ρ2 σ2 Hs2 H2, Hs2, ρ', ρ1, d, fun ρ2 σ2 j v e' _ rr hv => rr.store hv, e2.sub, r'.ext e2, hx, ha, fun σ2 r2 => ?_⟩
      exact qb Hs0 H0 Hs1 ρ1 σ2 Hs2 H2 _ r2 (sm'.trans e2.s) ((h'.next fun ρ3 σ3 Hs3 H3 r3 s3 q3 => ⟨ρ3, Hs3, r3, s3, q3⟩).same rfl rfl)
  · obtain ⟨ρ', Hs', r', sm', h'⟩ := p
    rw [List.drop_length] at h'
    exact h' σ' Hs' H' r' ((sm.trans e1.s).trans sm')
end
end QB
/-! ### assignments, lists that grow, raise -/
namespace QB
open PySem L2
section
variable {X : Cx} {W : WX} {pos : Pos}
theorem ds_asg {tg : Tg} {tgE e : Expr} {m : Env → R PyData} (he : DE X W e m) (hg : DG X tg tgE) (hst : noStar tgE = true) (hs : swapsWithSole [tgE] e pos.line X.env = pure false) (hw : swappedStores [tgE] e X.env = pure none) :
    DS X W (.Assign [tgE] e pos) (fun ρ => (m ρ).bind fun d => (asgT tg d ρ).bind fun ρ' => .ok (.nx ρ')) := by
  obtain ⟨t, p, q⟩ := he
  refine ⟨_, ps_asg p hg.pg hs hw (by rw [assign_cons hst]; rfl), fun Hs0 H0 Hst ρ σ Hs H D r sm h => ?_⟩
  refine q ρ σ Hs H _ r.base (h.bind r.grow fun d v Hs1 H1 _ e1 o1 h1 => ?_)
  cases ha : asgT tg d ρ with
  | stuck => rw [ha] at h1; exact h1.elim
  | exc c => exact absurd ha (asgT_noexc tg d ρ c)
  | ok ρ1 =>
    rw [ha] at h1
    exact ⟨fun ρ2 σ2 => Rel Hs0 H0 ρ2 σ2 Hs1 H1, Hs1, ρ, ρ1, d, fun ρ2 σ2 j v e' _ rr hv => rr.store hv, e1.sub, r.ext e1, o1, ha, fun σ2 r2 => h1 σ2 Hs1 H1 r2 (sm.trans e1.s)⟩
/-- name = [.. for ..], the block's value taken on the spot -/
theorem ds_asgC {i : Nat} {y : Str} {py spos : Pos} {tgE iterE eltE : Expr} {ifs : List Expr} {scope : Scope} {own : List (Str × Nat)} {tg : Tg} {mi : Env → R (List PyData)} {mt : Env → R Bool} {me : Env → R PyData}
    (hcalm : X.calm = true) (hN : X.N.Nodup) (hy : X.N[i]? = some y) (hyl : X.env.scope.names.lookup y = some .local)
    (hsw : swapsWith (.ListComp eltE [⟨tgE, iterE, ifs, 0⟩] scope pos) (some (.Name y py)) spos.line X.env = pure true) (hi : DI X W tgE iterE mi) (ok : BlkOk X.N X.env.scope scope own) (hsl : ∀ i ∈ tg.slots, i ∈ own.map (·.2))
    (hg : ∀ (s : Shared) (H : Hp) (C : Addr) (cl : List (Str × Addr)) (fp : List Addr), DG (X.blk s H scope (compEnvC scope cl C X.env) fp) tg tgE)
    (ht : ∀ (s : Shared) (H : Hp) (C : Addr) (cl : List (Str × Addr)) (fp : List Addr), PTs (X.blk s H scope (compEnvC scope cl C X.env) fp) ifs (tDT X.mg W0 mt))
    (he : ∀ (s : Shared) (H : Hp) (C : Addr) (cl : List (Str × Addr)) (fp : List Addr), DE (X.blk s H scope (compEnvC scope cl C X.env) fp) W0 eltE me) (hs : ∀ x, foldedSetIterable iterE X.env x = pure x) :
    DS X W (.Assign [.Name y py] (.ListComp eltE [⟨tgE, iterE, ifs, 0⟩] scope pos) spos) (fun ρ => ((mi ρ).bind fun ds => R.when (lok ds) ((compL (compF tg (own.map (·.2)) mt me ρ) ds).firm.bind fun r => .ok (.list r))).bind fun d => (asgT (.nm i) d ρ).bind fun ρ' => .ok (.nx ρ')) := by
  obtain ⟨wi, pi, q⟩ := comp_read (X := X) (W := W) (te := tDE X.mg W0 me) (mt := mt) (me := me) hi hsl
  refine ⟨_, ps_setLc (te := tDE X.mg W0 me) hcalm hN hy hyl hsw pi ok (fun s H C cl fp => (hg s H C cl fp).pg) ht (fun s H C cl fp => (he s H C cl fp).pe) hs, fun Hs0 H0 Hst ρ σ Hs H D r sm h => ?_⟩
  refine q ρ σ Hs H _ r.base (h.bind r.grow fun d v Hs1 H1 _ e1 o1 h1 => ?_)
  exact h1 _ Hs1 H1 ((r.ext e1).store o1) (sm.trans e1.s)
theorem swaps_comp {eltE : Expr} {gs : List Comprehension} {scope : Scope} {y : Str} {py p : Pos} {l : Nat} {env : PySem.Env} (hk : env.scope.kind = .function) :
    swapsWith (.ListComp eltE gs scope p) (some (.Name y py)) l env = pure (env.kindOf y == some .local && py.line == p.line && !(scope.names.any fun (n, k) => n == y && (k == .local || k == .cell))) := by
  have hb : env.blockKind = .function := by unfold Env.blockKind; rw [hk]; rfl
  unfold swapsWith
  simp only [hb, Expr.pos]
  rfl
/-- name = [a, b, ..]: the call's own list -/
theorem ds_own {i : Nat} {x : Str} {es : List Expr} {px lp : Pos} {ms : Env → R (List PyData)} (hN : X.N.Nodup) (hi : X.N[i]? = some x) (hx : L2.Loc X.env.scope x) (hf : X.fn x = true ∨ X.env.scope.names.lookup x = some .local)
    (hl : ∀ ρ ds, ms ρ = .ok ds → ds.length ≤ lim) (ha : DA X W es ms) : DS X W (.Assign [.Name x px] (.List es lp) pos) (fun ρ => (ms ρ).bind fun ds => .ok (.nx (ρ.set i (.ow ds)))) := by
  obtain ⟨t, p, q⟩ := ha
  refine ⟨_, ps_set hN hi hx (pe_lst p) (swaps_no rfl) hf, fun Hs0 H0 Hst ρ σ Hs H D r sm h => ?_⟩
  refine q ρ σ Hs H _ r.base (h.bind r.grow fun ds vs Hs1 H1 e0 e1 o1 h1 => ?_)
  refine ⟨lim_line (by rw [dpaLen o1]; exact hl ρ ds e0), fun l hn => ?_⟩
  have r1 := (r.ext e1).ext (Ext.aside (o := .lst vs) e1.sub hn)
  refine h1 _ Hs1 _ (r1.storeOwn upd_same (e1.sub.free hn) (r.grow.h.free (e1.h.free hn)) o1 fun j es' hj _ z => ?_) (sm.trans e1.s)
  obtain ⟨l', vs', q1, q2, _⟩ := (r.ext e1).own j es' hj
  rw [q1] at z
  cases z
  rw [hn] at q2
  cases q2
/-- a + b of lists, the sum aside -/
def rAddO (X : Cx) : R2 := fun x y H Q => ∃ (Hs : Hp) (ds es : List PyData), Same Hs H ∧ Dd Hs x (.list ds) ∧ Dd Hs y (.list es) ∧ ds.length + es.length ≤ lim ∧ ∀ p vs, H p = none → DdAll Hs vs (ds ++ es) → Q (.ref p) (upd H p (.lst vs))
theorem op_addO : OpR X (binaryOp .Add) (rAddO X) := by
  intro pins s σ H x y v u Q I rx ry h
  obtain ⟨Hs, a, b, sub, hd, he, hz, h⟩ := h
  cases hd with
  | @lst l xs _ h1 h2 =>
  cases he with
  | @lst l2 ys _ k1 k2 =>
  cases rx
  cases ry
  obtain ⟨z1, its, n, r1, e1⟩ := rdL I (rdS sub h1)
  obtain ⟨z2, its2, n2, r2, e2⟩ := rdL I (rdS sub k1)
  have hl : xs.length + ys.length ≤ sizeLine := by rw [dpaLen h2, dpaLen k2]; exact lim_line hz
  have hl1 := r1.length
  have hl2 := r2.length
  refine PySem.P.add_list e1 e2 ?_ (by rw [List.size_toArray, List.size_toArray]; omega)
  rw [show its.toArray ++ its2.toArray = (its ++ its2).toArray by simp]
  refine ⟨.ref _, _, I.lnew (t' := s.toks) (r1.append r2) (by rw [List.length_append]; exact hl), rfl, ?_⟩
  exact h _ _ I.fresh (dpaApp h2 k2)
theorem own_done {Hs0 H0 Hst Hs H : Hp} {ρ : Env} {σ : St} {D : Ends} {i : Nat} {l : Addr} {vs : List V} {ds : List PyData} (r : Rel Hs0 H0 ρ σ Hs H) (sm : Same Hst Hs) (hn : H l = none) (hd : DdAll Hs vs ds) (h : PostS X.mg W Hs0 H0 Hst (.ok (.nx (ρ.set i (.ow ds)))) D) : D.nx (σ.set i (some (.ref l))) (upd H l (.lst vs)) := by
  have r1 := r.ext (Ext.aside (o := .lst vs) r.base.sub hn)
  refine h _ Hs _ (r1.storeOwn upd_same (r.base.sub.free hn) (r.grow.h.free hn) hd fun j es' hj _ z => ?_) sm
  obtain ⟨l', vs', q1, q2, _⟩ := r.own j es' hj
  rw [q1] at z
  cases z
  rw [hn] at q2
  cases q2
theorem ds_ownA {i : Nat} {x : Str} {a b : Expr} {px bp : Pos} {ma mb : Env → R PyData} (hN : X.N.Nodup) (hi : X.N[i]? = some x) (hx : L2.Loc X.env.scope x) (hf : X.fn x = true ∨ X.env.scope.names.lookup x = some .local) (ha : DE X W a ma) (hb : DE X W b mb) :
    DS X W (.Assign [.Name x px] (.BinOp a .Add b bp) pos) (fun ρ => (ma ρ).bind fun d => (mb ρ).bind fun e => match d, e with
      | .list ds, .list es => R.when (decide (ds.length + es.length ≤ lim)) (.ok (.nx (ρ.set i (.ow (ds ++ es)))))
      | _, _ => .stuck) := by
  obtain ⟨ta, pa, qa⟩ := ha
  obtain ⟨tb, pb, qb⟩ := hb
  refine ⟨_, ps_set hN hi hx (pe_op op_addO pa pb) (swaps_no rfl) hf, fun Hs0 H0 Hst ρ σ Hs H D r sm h => ?_⟩
  refine qa ρ σ Hs H _ r.base (h.bind r.grow fun d y Hs1 H1 _ e1 o1 h1 => ?_)
  refine qb ρ σ Hs1 H1 _ (r.base.ext e1) (h1.bind (r.grow.trans e1) fun e z Hs2 H2 _ e2 o2 h2 => ?_)
  cases d with
  | list ds =>
    cases e with
    | list es =>
      cases hk : decide (ds.length + es.length ≤ lim) with
      | false =>
        have h2 : PostS X.mg W Hs0 H0 Hst (R.when (decide (ds.length + es.length ≤ lim)) _) D := h2
        rw [hk] at h2
        exact h2.elim
      | true =>
        have h2 : PostS X.mg W Hs0 H0 Hst (R.when (decide (ds.length + es.length ≤ lim)) (.ok (.nx (ρ.set i (.ow (ds ++ es)))))) D := h2
        rw [hk] at h2
        exact ⟨Hs2, ds, es, e2.sub, dpMono e2.s _ o1, o2, of_decide_eq_true hk, fun p vs hn hd => own_done (r.ext (e1.trans e2)) (sm.trans (e1.s.trans e2.s)) hn hd h2⟩
    | _ => exact h2.elim
  | _ => exact h2.elim
/-- name = [.. for ..], a list of the call's own -/
theorem ds_ownC {i : Nat} {y : Str} {py spos : Pos} {tgE iterE eltE : Expr} {ifs : List Expr} {scope : Scope} {own : List (Str × Nat)} {tg : Tg} {mi : Env → R (List PyData)} {mt : Env → R Bool} {me : Env → R PyData}
    (hcalm : X.calm = true) (hN : X.N.Nodup) (hy : X.N[i]? = some y) (hyl : X.env.scope.names.lookup y = some .local)
    (hsw : swapsWith (.ListComp eltE [⟨tgE, iterE, ifs, 0⟩] scope pos) (some (.Name y py)) spos.line X.env = pure true) (hi : DI X W tgE iterE mi) (ok : BlkOk X.N X.env.scope scope own) (hsl : ∀ i ∈ tg.slots, i ∈ own.map (·.2))
    (hg : ∀ (s : Shared) (H : Hp) (C : Addr) (cl : List (Str × Addr)) (fp : List Addr), DG (X.blk s H scope (compEnvC scope cl C X.env) fp) tg tgE)
    (ht : ∀ (s : Shared) (H : Hp) (C : Addr) (cl : List (Str × Addr)) (fp : List Addr), PTs (X.blk s H scope (compEnvC scope cl C X.env) fp) ifs (tDT X.mg W0 mt))
    (he : ∀ (s : Shared) (H : Hp) (C : Addr) (cl : List (Str × Addr)) (fp : List Addr), DE (X.blk s H scope (compEnvC scope cl C X.env) fp) W0 eltE me) (hs : ∀ x, foldedSetIterable iterE X.env x = pure x) :
    DS X W (.Assign [.Name y py] (.ListComp eltE [⟨tgE, iterE, ifs, 0⟩] scope pos) spos) (fun ρ => ((mi ρ).bind fun ds => R.when (lok ds) ((compL (compF tg (own.map (·.2)) mt me ρ) ds).firm.bind fun r => (.ok (PyData.list r) : R PyData))).bind fun d => match d with
      | PyData.list ds => .ok (.nx (ρ.set i (.ow ds)))
      | _ => .stuck) := by
  obtain ⟨wi, pi, qi⟩ := hi
  refine ⟨_, ps_setLc (te := tDE X.mg W0 me) hcalm hN hy hyl hsw pi ok (fun s H C cl fp => (hg s H C cl fp).pg) ht (fun s H C cl fp => (he s H C cl fp).pe) hs, fun Hs0 H0 Hst ρ σ Hs H D r sm h => ?_⟩
  have hb : ∀ (r : R (List PyData)) (g : List PyData → R PyData) (k : PyData → R Out), (r.bind g).bind k = r.bind fun a => (g a).bind k := fun r g k => by cases r <;> rfl
  have h := h
  dsimp only at h
  rw [hb] at h
  refine qi ρ σ Hs H _ r.base (h.bind r.grow fun ds J Hs1 H1 _ e1 w h1 => ?_)
  cases hk : lok ds with
  | false => rw [hk] at h1; exact h1.elim
  | true =>
  rw [hk] at h1
  cases hc : compL (compF tg (own.map (·.2)) mt me ρ) ds with
  | stuck => rw [hc] at h1; exact h1.elim
  | exc c => rw [hc] at h1; exact h1.elim
  | ok rs =>
    rw [hc] at h1
    have h1 : PostS X.mg W Hs0 H0 Hst (R.ok (Out.nx (ρ.set i (.ow rs)))) D := h1
    intro Dv hDv
    refine comp_core (X := X) (Q := fun v H => D.nx (σ.set i (some v)) H) (r.base.ext e1) w (of_decide_eq_true hk) hsl hc Dv hDv fun vs Hs' H' e d1 d2 hdd => ?_
    have r2 := (r.ext e1).ext e
    refine h1 _ Hs' H' (r2.storeOwn d2 d1 ((r.ext e1).grow.h.free hDv) hdd fun j es' hj _ z => ?_) (sm.trans (e1.s.trans e.s))
    obtain ⟨l', vs', q1, q2, _⟩ := (r.ext e1).own j es' hj
    rw [q1] at z
    cases z
    rw [hDv] at q2
    cases q2
theorem rdL' {pins : List (Addr × Obj)} {σ : St} {H : Hp} {s : Shared} {a : Addr} {xs : List V} (I : Inv X pins σ H s) (h : H a = some (.lst xs)) : ∃ (its : List Value) (n : Nat), Vals xs its ∧ s.heap.get? a = some { cls := .type "list", data := .seq its.toArray n } :=
  let ⟨_, its, n, r, e⟩ := rdL I (.inl h); ⟨its, n, r, e⟩
/-- x.extend(e), e any list -/
def rExtR : V → List V → Hp → VK → Prop := fun x vs H Q => ∃ l b xs zs, x = .ref l ∧ vs = [.ref b] ∧ H l = some (.lst xs) ∧ Rd H b (.lst zs) ∧ xs.length + zs.length ≤ sizeLine ∧ Q .non (upd H l (.lst (xs ++ zs)))
theorem mt_extR : MtR X "list.extend" rExtR := by
  intro pins s σ H x vs v us Q I rx rv h
  obtain ⟨l, b, xs, zs, rfl, rfl, hH, hB, hz, q⟩ := h
  cases rx
  obtain ⟨u, rfl, ru⟩ := rv.one
  cases ru
  obtain ⟨its, n, r1, e1⟩ := rdL' I hH
  obtain ⟨z2, its2, n2, r2, e2⟩ := rdL I hB
  have l1 := r1.length
  have l2 := r2.length
  have c0 : Builtin.List.listTooLong (its.toArray.size + its2.toArray.size) = false := notLongL (by rw [List.size_toArray, List.size_toArray]; omega)
  refine PySem.call_meets F.slot_list_extend ⟨_, e1, rfl⟩ F.entry_list_extend (F.args_list_extend_2 _ _)
    (AutoSeq1.list_extend_list_list_0 l its.toArray n b its2.toArray n2 (fun z => by rw [c0, Bool.and_false] at z; cases z) (by rw [List.size_toArray]; omega) (by rw [List.size_toArray, List.size_toArray]; omega)) ⟨e1, e2, ?_⟩
  exact ⟨.non, _, I.lset (its' := its ++ its2) hH e1 (by simp) (r1.append r2) (by rw [List.length_append]; exact hz), rfl, q⟩
theorem ds_app {i : Nat} {x : Str} {e : Expr} {px ap cp : Pos} {m : Env → R PyData} (hi : X.N[i]? = some x) (hv : Vis X.env.scope x) (hd : (x == ("__debug__" : Str)) = false) (hcd : (x == ("__classdict__" : Str)) = false) (hs : noStar e = true) (hln : (ap.endLine == cp.line) = true) (he : DE X W e m) :
    DS X W (.Expr (.Call (.Attribute (.Name x px) "append" ap) [e] [] cp) pos) (fun ρ => R.of (ownGet ρ[i]?) fun ds => (m ρ).bind fun d => R.when (lok ds) (.ok (.nx (ρ.set i (.ow (ds ++ [d])))))) := by
  obtain ⟨t, p, q⟩ := he
  refine ⟨_, ps_expr (pe_bm PySem.F.plainAttrs_list PySem.F.slot_list_append PySem.F.type_list_append mt_append (pe_var hi hv hd hcd) (pa_cons p pa_nil (star_cons hs)) rfl (few_of hs) hln (star_cons hs) rfl) rfl, fun Hs0 H0 Hst ρ σ Hs H D r sm h => ?_⟩
  dsimp only at h
  cases ho : ρ[i]? with
  | none => rw [ho] at h; exact h.elim
  | some sl =>
    rw [ho] at h
    cases sl with
    | no => exact h.elim
    | da d => exact h.elim
    | ow ds =>
      have h : PostS X.mg W Hs0 H0 Hst ((m ρ).bind fun d => R.when (lok ds) (.ok (.nx (ρ.set i (.ow (ds ++ [d])))))) D := h
      obtain ⟨l, vs, h1, h2, h3, h4, h5⟩ := r.own i ds ho
      refine ⟨.ref l, h1, .inl ⟨rfl, vs, .inl (.inl h2)⟩, q ρ σ Hs H _ r.base (h.bind r.grow fun d v Hs1 H1 _ e1 o1 h1' => ?_)⟩
      cases hk : lok ds with
      | false => rw [hk] at h1'; exact h1'.elim
      | true =>
        rw [hk] at h1'
        have hl : ds.length ≤ lim := of_decide_eq_true hk
        have hD : DdAll Hs1 vs ds := dpaMono e1.s ds h5
        have hn : Hs1 l = none := e1.new l (by rw [h2]; simp) h3
        refine ⟨l, vs, v, rfl, rfl, e1.h _ _ h2, ?_, h1' σ Hs1 _ ((r.ext e1).grown ho h1 (e1.h _ _ h2) hn h4 (dpaApp hD (.cons o1 .nil))) (sm.trans e1.s)⟩
        rw [dpaLen hD]
        have : (lim : Nat) = 1000000 := rfl
        rw [sizeLine_eq]; omega
theorem ds_ext {i : Nat} {x : Str} {e : Expr} {px ap cp : Pos} {m : Env → R PyData} (hi : X.N[i]? = some x) (hv : Vis X.env.scope x) (hd : (x == ("__debug__" : Str)) = false) (hcd : (x == ("__classdict__" : Str)) = false) (hs : noStar e = true) (hln : (ap.endLine == cp.line) = true) (he : DE X W e m) :
    DS X W (.Expr (.Call (.Attribute (.Name x px) "extend" ap) [e] [] cp) pos) (fun ρ => R.of (ownGet ρ[i]?) fun ds => (m ρ).bind fun d => match d with
      | .list es => R.when (decide (ds.length + es.length ≤ lim)) (.ok (.nx (ρ.set i (.ow (ds ++ es)))))
      | _ => .stuck) := by
  obtain ⟨t, p, q⟩ := he
  refine ⟨_, ps_expr (pe_bm PySem.F.plainAttrs_list PySem.F.slot_list_extend PySem.F.type_list_extend mt_extR (pe_var hi hv hd hcd) (pa_cons p pa_nil (star_cons hs)) rfl (few_of hs) hln (star_cons hs) rfl) rfl, fun Hs0 H0 Hst ρ σ Hs H D r sm h => ?_⟩
  dsimp only at h
  cases ho : ρ[i]? with
  | none => rw [ho] at h; exact h.elim
  | some sl =>
    rw [ho] at h
    cases sl with
    | no => exact h.elim
    | da d => exact h.elim
    | ow ds =>
      have h : PostS X.mg W Hs0 H0 Hst ((m ρ).bind fun d => match d with
        | .list es => R.when (decide (ds.length + es.length ≤ lim)) (.ok (.nx (ρ.set i (.ow (ds ++ es)))))
        | _ => .stuck) D := h
      obtain ⟨l, vs, h1, h2, h3, h4, h5⟩ := r.own i ds ho
      refine ⟨.ref l, h1, .inl ⟨rfl, vs, .inl (.inl h2)⟩, q ρ σ Hs H _ r.base (h.bind r.grow fun d v Hs1 H1 _ e1 o1 h1' => ?_)⟩
      cases d with
      | list es =>
        have h1' : PostS X.mg W Hs0 H0 Hst (R.when (decide (ds.length + es.length ≤ lim)) (.ok (.nx (ρ.set i (.ow (ds ++ es)))))) D := h1'
        cases hk : decide (ds.length + es.length ≤ lim) with
        | false => rw [hk] at h1'; exact h1'.elim
        | true =>
          rw [hk] at h1'
          have hl := of_decide_eq_true hk
          have hD : DdAll Hs1 vs ds := dpaMono e1.s ds h5
          have hn : Hs1 l = none := e1.new l (by rw [h2]; simp) h3
          cases o1 with
          | @lst b zs _ k1 k2 =>
            refine ⟨l, b, vs, zs, rfl, rfl, e1.h _ _ h2, rdS e1.sub k1, ?_, h1' σ Hs1 _ ((r.ext e1).grown ho h1 (e1.h _ _ h2) hn h4 (dpaApp hD k2)) (sm.trans e1.s)⟩
            rw [dpaLen hD, dpaLen k2]
            exact lim_line hl
      | _ => exact h1'.elim
/-! #### a, b = x, y -/
inductive SlsOk (H Hs' H' : Hp) : List Sl → List V → List Addr → Prop
  | nil : SlsOk H Hs' H' [] [] []
  | da {d : PyData} {v : V} {sls : List Sl} {vs : List V} {as : List Addr} : Dd Hs' v d → SlsOk H Hs' H' sls vs as → SlsOk H Hs' H' (.da d :: sls) (v :: vs) as
  | ow {ds : List PyData} {l : Addr} {xs : List V} {sls : List Sl} {vs : List V} {as : List Addr} : H' l = some (.lst xs) → Hs' l = none → H l = none → DdAll Hs' xs ds → l ∉ as → SlsOk H Hs' H' sls vs as → SlsOk H Hs' H' (.ow ds :: sls) (.ref l :: vs) (l :: as)
theorem SlsOk.free {H Hs' H' : Hp} {sls : List Sl} {vs : List V} {as : List Addr} (h : SlsOk H Hs' H' sls vs as) : ∀ l ∈ as, H l = none := by
  induction h with
  | nil => intro l hl; exact nomatch hl
  | da _ _ ih => exact ih
  | ow _ _ h1 _ _ _ ih =>
    intro l' hl'
    rcases List.mem_cons.mp hl' with e | e
    · rw [e]; exact h1
    · exact ih l' e
theorem SlsOk.ext {H Hs' H' Hs2 H2 : Hp} {sls : List Sl} {vs : List V} {as : List Addr} (h : SlsOk H Hs' H' sls vs as) (e : Ext Hs' H' Hs2 H2) : SlsOk H Hs2 H2 sls vs as := by
  induction h with
  | nil => exact .nil
  | da hd _ ih => exact .da (dpMono e.s _ hd) ih
  | ow q1 q2 q3 q4 q5 _ ih => exact .ow (e.h _ _ q1) (e.new _ (by rw [q1]; simp) q2) q3 (dpaMono e.s _ q4) q5 ih
theorem SlsOk.back {H Hb Hs' H' : Hp} {sls : List Sl} {vs : List V} {as : List Addr} (h : SlsOk H Hs' H' sls vs as) (s : Same Hb H) : SlsOk Hb Hs' H' sls vs as := by
  induction h with
  | nil => exact .nil
  | da hd _ ih => exact .da hd ih
  | ow q1 q2 q3 q4 q5 _ ih => exact .ow q1 q2 (s.free q3) q4 q5 ih
def PostP (E : Str → Hp → Prop) (Hs H : Hp) (m : R (List Sl)) (Q : List V → Hp → Prop) : Prop := match m with
  | .ok sls => ∀ vs as Hs' H', Ext Hs H Hs' H' → SlsOk H Hs' H' sls vs as → Q vs H'
  | .exc c => ∀ Hs' H', Ext Hs H Hs' H' → E c H'
  | .stuck => False
def DP (X : Cx) (W : WX) (es : List Expr) (m : Env → R (List Sl)) : Prop := ∃ t, PA X es t ∧ ∀ ρ σ Hs H (Q : List V → Hp → Prop), Rel0 ρ σ Hs H → PostP (Exc X W σ) Hs H (m ρ) Q → t σ H Q
theorem dp_nil : DP X W [] (fun _ => .ok []) := ⟨_, pa_nil, fun ρ σ Hs H Q r h => h [] [] Hs H (Ext.refl r.sub) .nil⟩
theorem dp_da {a : Expr} {es : List Expr} {ma : Env → R PyData} {ms : Env → R (List Sl)} (hs : noStar a = true) (ha : DE X W a ma) (hr : DP X W es ms) :
    DP X W (a :: es) (fun ρ => ((ma ρ).bind fun d => (.ok (.da d) : R Sl)).bind fun d => (ms ρ).bind fun ds => .ok (d :: ds)) := by
  obtain ⟨ta, pa, qa⟩ := ha
  obtain ⟨tr, pr, qr⟩ := hr
  refine ⟨_, pa_cons pa pr (star_cons hs), fun ρ σ Hs H Q r h => ?_⟩
  refine qa ρ σ Hs H _ r ?_
  dsimp only at h
  cases h1 : ma ρ with
  | stuck => rw [h1] at h; exact h
  | exc c => rw [h1] at h; exact h
  | ok d =>
    rw [h1] at h
    intro v Hs1 H1 e1 o1
    refine qr ρ σ Hs1 H1 _ (r.ext e1) ?_
    cases h2 : ms ρ with
    | stuck => rw [h2] at h; exact h
    | exc c => rw [h2] at h; exact fun Hs2 H2 e2 => h Hs2 H2 (e1.trans e2)
    | ok sls =>
      rw [h2] at h
      exact fun vs as Hs2 H2 e2 o2 => h (v :: vs) as Hs2 H2 (e1.trans e2) (.da (dpMono e2.s d o1) (o2.back e1.h))
theorem dp_ow {xs : List Expr} {lp : Pos} {es : List Expr} {ma : Env → R (List PyData)} {ms : Env → R (List Sl)} (hl : ∀ ρ ds, ma ρ = .ok ds → ds.length ≤ lim) (ha : DA X W xs ma) (hr : DP X W es ms) :
    DP X W (.List xs lp :: es) (fun ρ => ((ma ρ).bind fun d => (.ok (.ow d) : R Sl)).bind fun d => (ms ρ).bind fun ds => .ok (d :: ds)) := by
  obtain ⟨ta, pa, qa⟩ := ha
  obtain ⟨tr, pr, qr⟩ := hr
  refine ⟨_, pa_cons (pe_lst pa) pr rfl, fun ρ σ Hs H Q r h => ?_⟩
  refine qa ρ σ Hs H _ r ?_
  dsimp only at h
  cases h1 : ma ρ with
  | stuck => rw [h1] at h; exact h
  | exc c => rw [h1] at h; exact h
  | ok d =>
    rw [h1] at h
    intro zs Hs1 H1 e1 o1
    refine ⟨lim_line (by rw [dpaLen o1]; exact hl ρ d h1), fun p hp => ?_⟩
    have e2 : Ext Hs1 H1 Hs1 (upd H1 p (.lst zs)) := Ext.aside e1.sub hp
    refine qr ρ σ Hs1 _ _ ((r.ext e1).ext e2) ?_
    cases h2 : ms ρ with
    | stuck => rw [h2] at h; exact h
    | exc c => rw [h2] at h; exact fun Hs3 H3 e3 => h Hs3 H3 ((e1.trans e2).trans e3)
    | ok sls =>
      rw [h2] at h
      intro vs as Hs3 H3 e3 o3
      have hn : p ∉ as := fun z => by
        have := o3.free p z
        rw [upd_same] at this
        cases this
      exact h (.ref p :: vs) (p :: as) Hs3 H3 ((e1.trans e2).trans e3) (.ow (e3.h _ _ upd_same) (e3.new p (by rw [upd_same]; simp) (e1.sub.free hp)) (e1.h.free hp) (dpaMono e3.s d o1) hn (o3.back (e1.h.trans (same_new hp))))
def setV : List Nat → List V → St → St
  | i :: is, v :: vs, σ => setV is vs (σ.set i (some v))
  | _, _, σ => σ
theorem rel_setAll {Hs0 H0 H Hs' H' : Hp} (sm : Same H0 H) : ∀ (is : List Nat) (sls : List Sl) (vs : List V) (as : List Addr) (ρ ρ' : Env) (σ : St), Rel Hs0 H0 ρ σ Hs' H' → SlsOk H Hs' H' sls vs as →
    (∀ l ∈ as, ∀ (j : Nat) (es : List PyData), ρ[j]? = some (Sl.ow es) → σ[j]? ≠ some (some (V.ref l))) → setAll is sls ρ = .ok ρ' → Rel Hs0 H0 ρ' (setV is vs σ) Hs' H'
  | [], sls, vs, as, ρ, ρ', σ, r, ok, fr, h => by
    cases ok with
    | nil => cases h; exact r
    | da _ _ => cases h
    | ow _ _ _ _ _ _ => cases h
  | i :: is, sls, vs, as, ρ, ρ', σ, r, ok, fr, h => by
    cases ok with
    | nil => cases h
    | @da d v sls vs as hd ok =>
      refine rel_setAll sm is sls vs as _ ρ' _ (r.store hd) ok (fun l hl j es hj => ?_) h
      rcases set_get hj with ⟨_, q, _⟩ | ⟨e, q⟩
      · cases q
      · rw [List.getElem?_set_ne e]; exact fr l hl j es q
    | @ow ds l xs sls vs as q1 q2 q3 q4 q5 ok =>
      refine rel_setAll sm is sls vs as _ ρ' _ (r.storeOwn q1 q2 (sm.free q3) q4 fun j es hj _ => fr l (by simp) j es hj) ok (fun l' hl' j es hj => ?_) h
      rcases set_get hj with ⟨e, q, hlt⟩ | ⟨e, q⟩
      · subst e
        rw [List.getElem?_set_self (by rw [r.base.len]; exact hlt)]
        intro z
        cases z
        exact q5 hl'
      · rw [List.getElem?_set_ne e]; exact fr l' (List.mem_cons_of_mem _ hl') j es q
theorem par_done {Hs0 H0 Hst : Hp} {ρ : Env} {σ : St} {Hs H : Hp} {D : Ends} {is : List Nat} {sls : List Sl} (r : Rel Hs0 H0 ρ σ Hs H) (sm : Same Hst Hs) (h : PostS X.mg W Hs0 H0 Hst ((setAll is sls ρ).bind fun ρ' => .ok (.nx ρ')) D)
    {vs : List V} {as : List Addr} {Hs1 H1 : Hp} (e1 : Ext Hs H Hs1 H1) (o1 : SlsOk H Hs1 H1 sls vs as) : D.nx (setV is vs σ) H1 := by
  cases hs : setAll is sls ρ with
  | stuck => rw [hs] at h; exact h.elim
  | exc c => 
    exfalso
    have all : ∀ (is : List Nat) (sls : List Sl) (ρ : Env) (c : Str), setAll is sls ρ ≠ .exc c := by
      intro is
      induction is with
      | nil => intro sls ρ c z; cases sls <;> cases z
      | cons i is ih => intro sls ρ c z; cases sls with
        | nil => cases z
        | cons s sls => exact ih sls _ c z
    exact all is sls ρ c hs
  | ok ρ' =>
    rw [hs] at h
    refine h _ Hs1 H1 (rel_setAll (r.grow.h) is sls vs as ρ ρ' σ (r.ext e1) o1 (fun l hl j es hj z => ?_) hs) (sm.trans e1.s)
    obtain ⟨l', vs', q1, q2, _⟩ := r.own j es hj
    rw [q1] at z
    cases z
    rw [o1.free _ hl] at q2
    cases q2
theorem dp_post {Hs0 H0 Hst : Hp} {ρ : Env} {σ : St} {Hs H : Hp} {D : Ends} {is : List Nat} {m : R (List Sl)} {Q : List V → Hp → Prop} (r : Rel Hs0 H0 ρ σ Hs H) (sm : Same Hst Hs) (h : PostS X.mg W Hs0 H0 Hst (m.bind fun ds => (setAll is ds ρ).bind fun ρ' => .ok (.nx ρ')) D)
    (k : ∀ sls vs as Hs1 H1, m = .ok sls → Ext Hs H Hs1 H1 → SlsOk H Hs1 H1 sls vs as → PostS X.mg W Hs0 H0 Hst ((setAll is sls ρ).bind fun ρ' => .ok (.nx ρ')) D → Q vs H1) : PostP (Exc X W σ) Hs H m Q := by
  cases m with
  | ok sls => exact fun vs as Hs1 H1 e1 o1 => k sls vs as Hs1 H1 rfl e1 o1 h
  | exc c => exact fun Hs1 H1 e1 => h σ Hs1 H1 (r.grow.trans e1)
  | stuck => exact h
theorem setAll_len : ∀ (is : List Nat) (sls : List Sl) (ρ ρ' : Env), setAll is sls ρ = .ok ρ' → sls.length = is.length
  | [], [], _, _, _ => rfl
  | [], _ :: _, _, _, h => by cases h
  | _ :: _, [], _, _, h => by cases h
  | i :: is, s :: sls, ρ, ρ', h => by simp [setAll_len is sls _ ρ' h]
theorem sls_len {H Hs' H' : Hp} {sls : List Sl} {vs : List V} {as : List Addr} (h : SlsOk H Hs' H' sls vs as) : vs.length = sls.length := by
  induction h with
  | nil => rfl
  | da _ _ ih => simp [ih]
  | ow _ _ _ _ _ _ ih => simp [ih]
theorem ds_par2 {i j : Nat} {x y : Str} {a b : Expr} {px py pt : Pos} {kt k2 : Nat} {pt2 : Pos} {m : Env → R (List Sl)} (hc : X.calm = true) (hN : X.N.Nodup) (hi : X.N[i]? = some x) (hj : X.N[j]? = some y) (hij : i ≠ j)
    (hx : X.env.scope.names.lookup x = some .local) (hy : X.env.scope.names.lookup y = some .local) (hw : swappedStores [.Tuple [.Name x px, .Name y py] kt pt] (.Tuple [a, b] k2 pt2) X.env = pure (some [x, y])) (ha : DP X W [a, b] m) :
    DS X W (.Assign [.Tuple [.Name x px, .Name y py] kt pt] (.Tuple [a, b] k2 pt2) pos) (fun ρ => (m ρ).bind fun ds => (setAll [i, j] ds ρ).bind fun ρ' => .ok (.nx ρ')) := by
  obtain ⟨t, p, q⟩ := ha
  refine ⟨_, ps_par hc hN hi hj hij hx hy p hw rfl, fun Hs0 H0 Hst ρ σ Hs H D r sm h => ?_⟩
  refine q ρ σ Hs H _ r.base (dp_post r sm h fun sls vs as Hs1 H1 e0 e1 o1 h1 => ?_)
  have := par_done r sm h1 e1 o1
  have hl := sls_len o1
  cases hs : setAll [i, j] sls ρ with
  | stuck => rw [hs] at h1; exact h1.elim
  | exc c => rcases sls with _ | ⟨s1, _ | ⟨s2, _ | _⟩⟩ <;> cases hs
  | ok ρ' =>
    have h2 := setAll_len _ _ _ _ hs
    match vs, (hl.trans h2) with
    | [v, w], _ => exact ⟨v, w, rfl, this⟩
theorem ds_par3 {i j l : Nat} {x y z : Str} {a b c : Expr} {px py pz pt : Pos} {kt k2 : Nat} {pt2 : Pos} {m : Env → R (List Sl)} (hc : X.calm = true) (hN : X.N.Nodup) (hi : X.N[i]? = some x) (hj : X.N[j]? = some y) (hl : X.N[l]? = some z) (hij : i ≠ j) (hil : i ≠ l) (hjl : j ≠ l)
    (hx : X.env.scope.names.lookup x = some .local) (hy : X.env.scope.names.lookup y = some .local) (hz : X.env.scope.names.lookup z = some .local) (hw : swappedStores [.Tuple [.Name x px, .Name y py, .Name z pz] kt pt] (.Tuple [a, b, c] k2 pt2) X.env = pure (some [x, y, z])) (ha : DP X W [a, b, c] m) :
    DS X W (.Assign [.Tuple [.Name x px, .Name y py, .Name z pz] kt pt] (.Tuple [a, b, c] k2 pt2) pos) (fun ρ => (m ρ).bind fun ds => (setAll [i, j, l] ds ρ).bind fun ρ' => .ok (.nx ρ')) := by
  obtain ⟨t, p, q⟩ := ha
  refine ⟨_, ps_par3 hc hN hi hj hl hij hil hjl hx hy hz p hw rfl, fun Hs0 H0 Hst ρ σ Hs H D r sm h => ?_⟩
  refine q ρ σ Hs H _ r.base (dp_post r sm h fun sls vs as Hs1 H1 e0 e1 o1 h1 => ?_)
  have := par_done r sm h1 e1 o1
  have hl' := sls_len o1
  cases hs : setAll [i, j, l] sls ρ with
  | stuck => rw [hs] at h1; exact h1.elim
  | exc c => rcases sls with _ | ⟨s1, _ | ⟨s2, _ | ⟨s3, _ | _⟩⟩⟩ <;> cases hs
  | ok ρ' =>
    have h2 := setAll_len _ _ _ _ hs
    match vs, (hl'.trans h2) with
    | [u, v, w], _ => exact ⟨u, v, w, rfl, this⟩
/-- the tuple is made and taken apart -/
def gNames : List Nat → TGs
  | [] => gNil
  | i :: is => gCons (gName i) (gNames is)
theorem gNames_set : ∀ (is : List Nat) (vs : List V) (σ : St) (H : Hp) (Q : St → Hp → Prop), vs.length = is.length → Q (setV is vs σ) H → gNames is vs σ H Q
  | [], [], _, _, _, _, h => ⟨rfl, h⟩
  | [], _ :: _, _, _, _, h, _ => by simp at h
  | _ :: _, [], _, _, _, h, _ => by simp at h
  | i :: is, v :: vs, σ, H, Q, h, q => ⟨v, vs, rfl, gNames_set is vs _ H Q (by simpa using h) q⟩
theorem ds_unp {is : List Nat} {ts vs : List Expr} {kt k2 : Nat} {pt pt2 : Pos} {m : Env → R (List Sl)} (hc : X.calm = true) (hg : PGs X ts (gNames is)) (hn : (assignEach ts X.env).length = is.length) (hf : (assignEach ts X.env).findIdx? (·.1) = none) (hlen : is.length ≤ 1000)
    (hw : swappedStores [.Tuple ts kt pt] (.Tuple vs k2 pt2) X.env = pure none) (ha : DP X W vs m) :
    DS X W (.Assign [.Tuple ts kt pt] (.Tuple vs k2 pt2) pos) (fun ρ => (m ρ).bind fun ds => (setAll is ds ρ).bind fun ρ' => .ok (.nx ρ')) := by
  obtain ⟨t, p, q⟩ := ha
  refine ⟨_, ps_asg (pe_tup p) (pg_tup hc hg hn hf) rfl hw rfl, fun Hs0 H0 Hst ρ σ Hs H D r sm h => ?_⟩
  refine q ρ σ Hs H _ r.base (dp_post r sm h fun sls vs as Hs1 H1 e0 e1 o1 h1 => ?_)
  cases hs : setAll is sls ρ with
  | stuck => rw [hs] at h1; exact h1.elim
  | exc c =>
    exfalso
    have all : ∀ (is : List Nat) (sls : List Sl) (ρ : Env) (c : Str), setAll is sls ρ ≠ .exc c := by
      intro is
      induction is with
      | nil => intro sls ρ c z; cases sls <;> cases z
      | cons i is ih => intro sls ρ c z; cases sls with
        | nil => cases z
        | cons s sls => exact ih sls _ c z
    exact all is sls ρ c hs
  | ok ρ' =>
    have hl : vs.length = is.length := (sls_len o1).trans (setAll_len _ _ _ _ hs)
    refine ⟨by rw [hl, sizeLine_eq]; omega, fun T hT => ⟨T, vs, rfl, .inl (.inl upd_same), hl, gNames_set is vs σ _ _ hl ?_⟩⟩
    have e2 : Ext Hs1 H1 Hs1 (upd H1 T (.tup vs)) := Ext.aside e1.sub hT
    exact par_done r sm h1 (e1.trans e2) (o1.ext e2)
/-! #### raise -/
def RaiOk (X : Cx) (x : Str) : Prop := ∃ C, X.mg x = some (.ref C) ∧ PySem.W.excIn X.K C [.type "ValueError", .type "Exception", .type "BaseException", .type "object"] "ValueError.__new__" = true ∧ PySem.W.keepIn X.K (.ref C) = true ∧ Raises X (.ref C)
theorem ds_rai {x z : Str} {j : Nat} {p p2 cp : Pos} (hc : X.calm = true) (tk : Takes X W) (R : RaiOk X x) (hg : Gl X x) (hdb : (x == ("__debug__" : Str)) = false) : DS X W (.Raise (some (.Call (.Name x p) [.Constant (.str z) j p2] [] cp)) none pos) (fun _ => .exc x) := by
  obtain ⟨C, h1, h2, h3, h4⟩ := R
  refine ⟨_, ps_raise hc tk (pmk_own PySem.F.excBase_ValueError h2 h1 h3 h4 hg hdb), fun Hs0 H0 Hst ρ σ Hs H D r sm h => ?_⟩
  exact h σ Hs H r.grow C h1
end
end QB
/-! ### list(zip(x, y, z)): the zip, its tuples kept -/
namespace QB
open PySem PySem.Spec PyProof.Rows L2
section
variable {prog : Program} {w : World} {A : Around} {E : Value → Shared → Prop} {s : Shared} {z TI TO i1 i2 i3 : Addr} {fp1 fp2 fp3 : List Addr} {n1 n2 n3 i : Nat} {P1 P2 P3 : Nat → Value → Prop} {St1 St2 St3 : Nat → Heap → Prop}
theorem zip3_held_item {T : Addr} {f : Bool} {oT : Obj} {Q : Value → Shared → Prop} (S : ZipSep3 z TI TO i1 i2 i3 fp1 fp2 fp3) (D1 : Draws prog w A i1 fp1 n1 P1 St1) (D2 : Draws prog w A i2 fp2 n2 P2 St2) (D3 : Draws prog w A i3 fp3 n3 P3 St3)
    (hz : IsZipHeld s.heap z TI TO T f) (hT : s.heap.get? T = some oT) (hTI : IsTupOf3 s.heap TI (.ref i1) (.ref i2) (.ref i3)) (st1 : St1 i s.heap) (st2 : St2 i s.heap) (st3 : St3 i s.heap) (hlt1 : i < n1) (hlt2 : i < n2) (hlt3 : i < n3)
    (hQ : ∀ x1 x2 x3 h' tk, P1 i x1 → P2 i x2 → P3 i x3 → IsZipHeld h' z TI TO T true → St1 (i + 1) h' → St2 (i + 1) h' → St3 (i + 1) h' → IsTupOf3 h' s.heap.objs.size x1 x2 x3 → h'.objs.size = s.heap.objs.size + 1 →
      (∀ c o, c ≠ z → c ≠ i1 → c ≠ i2 → c ≠ i3 → s.heap.get? c = some o → h'.get? c = some o) → Q (.ref s.heap.objs.size) { s with heap := h', toks := tk }) :
    wpAny (model prog w) A (Builtin.«zip.__next__» ⟨[.ref z], []⟩) (fun fin s' => ∃ v, fin = .done (.ret v) ∧ Q v s') E s := by
  obtain ⟨hp, g, d, tk0, os⟩ := s
  show wpAny _ _ (field (.ref z) 2 >>= _) _ _ _
  refine wpAny_bind (wpAny_field hz rfl (x := .bool false) rfl ?_)
  show wpAny _ _ (field (.ref z) 3 >>= _) _ _ _
  refine wpAny_bind (wpAny_field hz rfl (x := .ref TI) rfl ?_)
  refine wpAny_bind (wpAny_seqItems hTI rfl ?_)
  show wpAny _ _ (Builtin.SmallTypes.ownedTupleIsFree (.ref z) >>= _) _ _ _
  refine wpAny_bind (wpAny_tupleHeld_zip hz hT fun g0 hz0 hs0 => ?_)
  replace hs0 : Heap.SameBut z hp g0 := hs0
  simp only [Bool.false_eq_true, if_false]
  refine wpAny_bind ?_
  rw [← Array.forIn_toList]
  simp only [List.forIn_cons, List.forIn_nil]
  refine wpAny_bind (wpAny_bind (wpAny_holding ?_))
  show wpAny _ _ (Builtin.SmallTypes.nextOf (.ref i1) >>= _) _ _ ⟨g0, g, d, tk0, os⟩
  refine wpAny_bind (D1.item i _ _ _ hlt1 (D1.over st1 hs0 S.zf1) fun x1 p1 tk1 hx1 sn1 hp1 => wpAny_pure ?_)
  replace hp1 : Heap.SameBut i1 g0 p1 := hp1
  refine wpAny_pure ?_
  refine wpAny_bind (wpAny_bind (wpAny_holding ?_))
  show wpAny _ _ (Builtin.SmallTypes.nextOf (.ref i2) >>= _) _ _ ⟨p1, g, d, tk1, os⟩
  refine wpAny_bind (D2.item i _ _ _ hlt2 (D2.over (D2.over st2 hs0 S.zf2) hp1 S.sep1_2) fun x2 p2 tk2 hx2 sn2 hp2 => wpAny_pure ?_)
  replace hp2 : Heap.SameBut i2 p1 p2 := hp2
  refine wpAny_pure ?_
  refine wpAny_bind (wpAny_bind (wpAny_holding ?_))
  show wpAny _ _ (Builtin.SmallTypes.nextOf (.ref i3) >>= _) _ _ ⟨p2, g, d, tk2, os⟩
  refine wpAny_bind (D3.item i _ _ _ hlt3 (D3.over (D3.over (D3.over st3 hs0 S.zf3) hp1 S.sep1_3) hp2 S.sep2_3) fun x3 p3 tk3 hx3 sn3 hp3 => wpAny_pure ?_)
  replace hp3 : Heap.SameBut i3 p2 p3 := hp3
  refine wpAny_pure (wpAny_pure ?_)
  show wpAny _ _ (newTuple [x1, x2, x3] >>= _) _ _ _
  refine wpAny_bind (wpAny_newTuple ?_)
  have zi1 : z ≠ i1 := fun e => S.zf1 (by rw [e]; exact S.mem1)
  have zi2 : z ≠ i2 := fun e => S.zf2 (by rw [e]; exact S.mem2)
  have zi3 : z ≠ i3 := fun e => S.zf3 (by rw [e]; exact S.mem3)
  have hsz : p3.objs.size = hp.objs.size := by rw [hp3.1, hp2.1, hp1.1, hs0.1]
  have hz3 : IsZipHeld p3 z TI TO T true := hp3.extBut _ _ zi3 (hp2.extBut _ _ zi2 (hp1.extBut _ _ zi1 hz0))
  have hk : ∀ c o, c ≠ z → c ≠ i1 → c ≠ i2 → c ≠ i3 → hp.get? c = some o → p3.get? c = some o := fun c o c1 c2 c3 c4 e => hp3.extBut _ _ c4 (hp2.extBut _ _ c3 (hp1.extBut _ _ c2 (hs0.extBut _ _ c1 e)))
  have hj1 : St1 (i + 1) p3 := D1.over (D1.over sn1 hp2 S.sep2_1) hp3 S.sep3_1
  have hj2 : St2 (i + 1) p3 := D2.over sn2 hp3 S.sep3_2
  refine wpAny_pure ⟨_, rfl, ?_⟩
  show Q (.ref p3.objs.size) _
  have hpr : IsTupOf3 (p3.push { cls := .type "tuple", data := .seq #[x1, x2, x3] }) p3.objs.size x1 x2 x3 := Heap.get?_push_size _ rfl
  have hz4 : (p3.push { cls := .type "tuple", data := .seq #[x1, x2, x3] }).objs.size = p3.objs.size + 1 := Heap.size_push ..
  have up : ∀ b o, p3.get? b = some o → (p3.push { cls := .type "tuple", data := .seq #[x1, x2, x3] }).get? b = some o := fun b o e => Heap.get?_push_of_some _ e
  rw [hsz] at hpr hz4 ⊢
  exact hQ x1 x2 x3 _ tk3 hx1 hx2 hx3 (up _ _ hz3) (D1.frame _ _ _ hj1 fun b _ o e => up b o e) (D2.frame _ _ _ hj2 fun b _ o e => up b o e) (D3.frame _ _ _ sn3 fun b _ o e => up b o e) hpr hz4 fun c o c1 c2 c3 c4 e => up _ _ (hk c o c1 c2 c3 c4 e)
theorem zip3_held_end {T : Addr} {f : Bool} {oT : Obj} {Q : Fin → Shared → Prop} (S : ZipSep3 z TI TO i1 i2 i3 fp1 fp2 fp3) (D1 : Draws prog w A i1 fp1 n1 P1 St1)
    (hz : IsZipHeld s.heap z TI TO T f) (hT : s.heap.get? T = some oT) (hTI : IsTupOf3 s.heap TI (.ref i1) (.ref i2) (.ref i3)) (st1 : St1 n1 s.heap)
    (hE : ∀ h' e, (∀ c o, c ≠ z → c ≠ i1 → s.heap.get? c = some o → h'.get? c = some o) → (∃ o, h'.get? e = some o ∧ o.cls = .type "StopIteration") → E (.ref e) { s with heap := h' }) :
    wpAny (model prog w) A (Builtin.«zip.__next__» ⟨[.ref z], []⟩) Q E s := by
  show wpAny _ _ (field (.ref z) 2 >>= _) _ _ _
  refine wpAny_bind (wpAny_field hz rfl (x := .bool false) rfl ?_)
  show wpAny _ _ (field (.ref z) 3 >>= _) _ _ _
  refine wpAny_bind (wpAny_field hz rfl (x := .ref TI) rfl ?_)
  refine wpAny_bind (wpAny_seqItems hTI rfl ?_)
  show wpAny _ _ (Builtin.SmallTypes.ownedTupleIsFree (.ref z) >>= _) _ _ _
  refine wpAny_bind (wpAny_tupleHeld_zip hz hT fun g0 hz0 hs0 => ?_)
  simp only [Bool.false_eq_true, if_false]
  refine wpAny_bind ?_
  rw [← Array.forIn_toList]
  simp only [List.forIn_cons, List.forIn_nil]
  refine wpAny_bind (wpAny_bind (wpAny_holding ?_))
  show wpAny _ _ (Builtin.SmallTypes.nextOf (.ref i1) >>= _) _ _ _
  refine wpAny_bind (D1.done { s with heap := g0 } _ _ (D1.over st1 hs0 S.zf1) fun q e hq he => ?_)
  exact hE q e (fun c o c1 c2 x => hq _ _ c2 (hs0.extBut _ _ c1 x)) he
theorem next_held_item {T : Addr} {f : Bool} {oT : Obj} {Q : Option Value → Shared → Prop} (S : ZipSep3 z TI TO i1 i2 i3 fp1 fp2 fp3) (D1 : Draws prog w A.in1 i1 fp1 n1 P1 St1) (D2 : Draws prog w A.in1 i2 fp2 n2 P2 St2) (D3 : Draws prog w A.in1 i3 fp3 n3 P3 St3)
    (hz : IsZipHeld s.heap z TI TO T f) (hT : s.heap.get? T = some oT) (hTI : IsTupOf3 s.heap TI (.ref i1) (.ref i2) (.ref i3)) (st1 : St1 i s.heap) (st2 : St2 i s.heap) (st3 : St3 i s.heap) (hlt1 : i < n1) (hlt2 : i < n2) (hlt3 : i < n3)
    (hQ : ∀ x1 x2 x3 h' tk, P1 i x1 → P2 i x2 → P3 i x3 → IsZipHeld h' z TI TO T true → St1 (i + 1) h' → St2 (i + 1) h' → St3 (i + 1) h' → IsTupOf3 h' s.heap.objs.size x1 x2 x3 → h'.objs.size = s.heap.objs.size + 1 →
      (∀ c o, c ≠ z → c ≠ i1 → c ≠ i2 → c ≠ i3 → s.heap.get? c = some o → h'.get? c = some o) → Q (some (.ref s.heap.objs.size)) { s with heap := h', toks := tk }) :
    wpAny (model prog w) A (pyNext (.ref z)) Q E s := by
  have hTy : s.TypeIs (.ref z) "zip" := ⟨_, hz, rfl⟩
  unfold pyNext
  exact wpAny_bind (wpAny_attempt (wpAny_callSpecial?_slot (name := Str.ofString "__next__") hTy F.slot_zip_next
    (wpAny_call_entry F.slot_zip_next hTy F.entry_zip_next
      (zip3_held_item S D1 D2 D3 hz hT hTI st1 st2 st3 hlt1 hlt2 hlt3 fun x1 x2 x3 h' tk y1 y2 y3 b1 b2 b3 b4 b5 b6 b7 => wpAny_pure (hQ x1 x2 x3 h' tk y1 y2 y3 b1 b2 b3 b4 b5 b6 b7)) (F.args_zip_next_1 _))))
theorem next_held_end {T : Addr} {f : Bool} {oT : Obj} {Q : Option Value → Shared → Prop} (S : ZipSep3 z TI TO i1 i2 i3 fp1 fp2 fp3) (D1 : Draws prog w A.in1 i1 fp1 n1 P1 St1)
    (hz : IsZipHeld s.heap z TI TO T f) (hT : s.heap.get? T = some oT) (hTI : IsTupOf3 s.heap TI (.ref i1) (.ref i2) (.ref i3)) (st1 : St1 n1 s.heap)
    (hQ : ∀ h', (∀ c o, c ≠ z → c ≠ i1 → s.heap.get? c = some o → h'.get? c = some o) → Q none { s with heap := h' }) : wpAny (model prog w) A (pyNext (.ref z)) Q E s := by
  have hTy : s.TypeIs (.ref z) "zip" := ⟨_, hz, rfl⟩
  unfold pyNext
  refine wpAny_bind (wpAny_attempt (wpAny_callSpecial?_slot (name := Str.ofString "__next__") hTy F.slot_zip_next
    (wpAny_call_entry F.slot_zip_next hTy F.entry_zip_next (zip3_held_end S D1 hz hT hTI st1 fun h' e hk he => ?_) (F.args_zip_next_1 _))))
  obtain ⟨o, ho, hc⟩ := he
  refine wpAny_bind (wpAny_isInstance (T := "StopIteration") (b := true) ⟨o, ho, hc⟩ isSubtype_stop ?_)
  exact wpAny_pure (hQ _ hk)
end
end QB
/-! ### list(zip(x, y, z)) -/
namespace QB
open PySem PySem.Spec PyProof.Rows L2
theorem zip_no_len : typeLookup (.type "zip") "__len__" = pure none := by rw [typeLookup_type, builtinLookup_eq_fast]; kernel_rfl
theorem zip_no_hint : typeLookup (.type "zip") "__length_hint__" = pure none := by rw [typeLookup_type, builtinLookup_eq_fast]; kernel_rfl
/-- where the walk stands: i tuples at Ts are out -/
structure ZJ (h0 : Heap) (N0 : Nat) (z TI TO i1 i2 i3 : Addr) (P1 P2 P3 : Nat → Value → Prop) (St1 St2 St3 : Nat → Heap → Prop) (i : Nat) (h : Heap) (Ts : List Addr) : Prop where
  zip : (i = 0 ∧ IsZip h z TI TO .none) ∨ ∃ T f oT, IsZipHeld h z TI TO T f ∧ h.get? T = some oT ∧ N0 ≤ T
  ti : IsTupOf3 h TI (.ref i1) (.ref i2) (.ref i3)
  to : ∃ a1 a2 a3, IsTupOf3 h TO a1 a2 a3
  s1 : St1 i h
  s2 : St2 i h
  s3 : St3 i h
  keep : ∀ b o, h0.get? b = some o → h.get? b = some o
  big : N0 ≤ h.objs.size
  len : Ts.length = i
  nd : Ts.Nodup
  lt : ∀ T ∈ Ts, T < h.objs.size
  out : ∀ (k : Nat) (T : Addr), Ts[k]? = some T → N0 ≤ T ∧ ∃ x1 x2 x3, IsTupOf3 h T x1 x2 x3 ∧ P1 k x1 ∧ P2 k x2 ∧ P3 k x3
section
variable {prog : Program} {w : World} {A : Around} {s : Shared} {R : Result → Shared → Prop} {h0 : Heap} {N0 : Nat} {z TI TO i1 i2 i3 : Addr} {fp1 fp2 fp3 : List Addr} {n : Nat} {P1 P2 P3 : Nat → Value → Prop} {St1 St2 St3 : Nat → Heap → Prop}
/-- a step of the zip, then what it gave is put behind -/
theorem ZJ.step {i : Nat} {h h' : Heap} {Ts : List Addr} (D1 : Draws prog w A.in1.in1 i1 fp1 n P1 St1) (J : ZJ h0 N0 z TI TO i1 i2 i3 P1 P2 P3 St1 St2 St3 i h Ts) (lo : ∀ b ∈ [z, TO, TI, i1, i2, i3], b < N0) (hi0 : ∀ b ∈ [z, TO, TI, i1, i2, i3], h0.objs.size ≤ b) (nTI : TI ≠ z ∧ TI ≠ TO ∧ TI ≠ i1 ∧ TI ≠ i2 ∧ TI ≠ i3)
    {x1 x2 x3 : Value} {T' : Addr} {f' : Bool} (y1 : P1 i x1) (y2 : P2 i x2) (y3 : P3 i x3) (hz : IsZipHeld h' z TI TO T' f') (hT' : ∃ oT, h'.get? T' = some oT) (bT : N0 ≤ T') (hTO : ∃ a1 a2 a3, IsTupOf3 h' TO a1 a2 a3) (t1 : St1 (i + 1) h') (t2 : St2 (i + 1) h') (t3 : St3 (i + 1) h') (tT : IsTupOf3 h' h.objs.size x1 x2 x3) (sz : h'.objs.size = h.objs.size + 1)
    (kp : ∀ c o, c ≠ z → c ≠ TO → c ≠ i1 → c ≠ i2 → c ≠ i3 → h.get? c = some o → h'.get? c = some o) : ZJ h0 N0 z TI TO i1 i2 i3 P1 P2 P3 St1 St2 St3 (i + 1) h' (Ts ++ [h.objs.size]) := by
  have big : ∀ c, N0 ≤ c → c ≠ z ∧ c ≠ TO ∧ c ≠ i1 ∧ c ≠ i2 ∧ c ≠ i3 := fun c hc => by
    have l1 := lo z (by simp); have l2 := lo TO (by simp); have l3 := lo i1 (by simp); have l4 := lo i2 (by simp); have l5 := lo i3 (by simp)
    refine ⟨fun q => ?_, fun q => ?_, fun q => ?_, fun q => ?_, fun q => ?_⟩ <;> (subst q; exact absurd hc (Nat.not_le.mpr (by assumption)))
  have old : ∀ c o, h0.get? c = some o → c ≠ z ∧ c ≠ TO ∧ c ≠ i1 ∧ c ≠ i2 ∧ c ≠ i3 := fun c o e => by
    have hc := Heap.lt_size e
    have l1 := hi0 z (by simp); have l2 := hi0 TO (by simp); have l3 := hi0 i1 (by simp); have l4 := hi0 i2 (by simp); have l5 := hi0 i3 (by simp)
    refine ⟨fun q => ?_, fun q => ?_, fun q => ?_, fun q => ?_, fun q => ?_⟩ <;> (subst q; exact absurd hc (Nat.not_lt.mpr (by assumption)))
  obtain ⟨oT, hoT⟩ := hT'
  refine ⟨.inr ⟨T', f', oT, hz, hoT, bT⟩, kp _ _ nTI.1 nTI.2.1 nTI.2.2.1 nTI.2.2.2.1 nTI.2.2.2.2 J.ti, hTO, t1, t2, t3, fun b o e => ?_, by rw [sz]; exact Nat.le_succ_of_le J.big, by rw [List.length_append, J.len]; rfl, ?_, fun T hT => ?_, fun k T e => ?_⟩
  · obtain ⟨a, b', c, d, f⟩ := old b o e
    exact kp _ _ a b' c d f (J.keep b o e)
  · refine List.nodup_append.mpr ⟨J.nd, List.pairwise_singleton _ _, fun a ha b hb => ?_⟩
    rw [List.mem_singleton.mp hb]
    exact Nat.ne_of_lt (J.lt a ha)
  · rw [sz]
    rcases List.mem_append.mp hT with q | q
    · exact Nat.lt_succ_of_lt (J.lt T q)
    · rw [List.mem_singleton.mp q]; exact Nat.lt_succ_self _
  · by_cases hk : k < Ts.length
    · rw [List.getElem?_append_left hk] at e
      obtain ⟨q1, a1, a2, a3, q2, q3⟩ := J.out k T e
      obtain ⟨a, b', c, d, f⟩ := big T q1
      exact ⟨q1, a1, a2, a3, kp _ _ a b' c d f q2, q3⟩
    · rw [List.getElem?_append_right (by omega)] at e
      have h00 : k - Ts.length = 0 := by
        have := (List.getElem?_eq_some_iff.mp e).1
        simp at this
        omega
      rw [h00] at e
      have e : h.objs.size = T := by simpa using e
      subst e
      have : k = i := by have := J.len; omega
      subst this
      exact ⟨J.big, x1, x2, x3, tT, y1, y2, y3⟩
theorem loop3 (S : ZipSep3 z TI TO i1 i2 i3 fp1 fp2 fp3) (D1 : Draws prog w A.in1.in1 i1 fp1 n P1 St1) (D2 : Draws prog w A.in1.in1 i2 fp2 n P2 St2) (D3 : Draws prog w A.in1.in1 i3 fp3 n P3 St3) (hn1 : 1 ≤ n) (hn : n ≤ 1000)
    (lo : ∀ b ∈ [z, TO, TI, i1, i2, i3], b < N0) (hi0 : ∀ b ∈ [z, TO, TI, i1, i2, i3], h0.objs.size ≤ b) (L : Addr) (hL0 : h0.objs.size ≤ L) (hLN : L < N0) (hLz : ∀ b ∈ [z, TO, TI, i1, i2, i3], L ≠ b) (hLf : L ∉ fp1 ∧ L ∉ fp2 ∧ L ∉ fp3) (res : Value) :
    ∀ (k i : Nat) (h : Heap) (tk : Nat) (acc : Array Value) (c : Nat) (Ts : List Addr), n - i = k → i ≤ n → ZJ h0 N0 z TI TO i1 i2 i3 P1 P2 P3 St1 St2 St3 i h Ts → acc.toList = Ts.map .ref → h.get? L = some { cls := .type "list", dict := none, data := .seq acc c, slots := #[] } →
    (∀ (h' : Heap) (tk' : Nat) (acc' : Array Value) (c' : Nat) (Ts' : List Addr), (∀ b o, h0.get? b = some o → h'.get? b = some o) → h0.objs.size ≤ h'.objs.size → acc'.toList = Ts'.map Value.ref → Ts'.length = n → Ts'.Nodup → (∀ (k : Nat) (T : Addr), Ts'[k]? = some T → N0 ≤ T ∧ ∃ x1 x2 x3, IsTupOf3 h' T x1 x2 x3 ∧ P1 k x1 ∧ P2 k x2 ∧ P3 k x3) → h'.get? L = some { cls := .type "list", dict := none, data := .seq acc' c', slots := #[] } → R (.ok (.ret res)) { s with heap := h', toks := tk' }) →
    codeAny (model prog w) A (.builtin "list.extend.loop" ⟨[.ref L, .ref z, res], []⟩) R { s with heap := h, toks := tk } := by
  have nTI : TI ≠ z ∧ TI ≠ TO ∧ TI ≠ i1 ∧ TI ≠ i2 ∧ TI ≠ i3 := ⟨S.TIz, S.TITO, S.TIi1, S.TIi2, S.TIi3⟩
  intro k
  induction k with
  | zero =>
    intro i h tk acc c Ts hk hi J hacc hL hR
    have hin : i = n := by omega
    subst hin
    refine codeAny_builtin F.entry_extend_loop ?_
    rw [Around.under_plainId F.plain_extend_loop _]
    show wpAny _ A.in1 (pyNext (.ref z) >>= _) _ _ _
    rcases J.zip with ⟨q, _⟩ | ⟨T, f, oT, hz, hoT, bT⟩
    · omega
    have lz := lo z (by simp)
    have l1 := lo i1 (by simp)
    refine wpAny_bind (next_held_end (s := { s with heap := h, toks := tk }) S D1 hz hoT J.ti J.s1 fun h' kp => wpAny_pure ?_)
    refine hR h' tk acc c Ts (fun b o e => ?_) ?_ hacc J.len J.nd (fun k T e => ?_) (kp _ _ (hLz z (by simp)) (hLz i1 (by simp)) hL)
    · have hb := Heap.lt_size e
      have g1 := hi0 z (by simp)
      have g2 := hi0 i1 (by simp)
      exact kp _ _ (fun q => by subst q; exact absurd hb (Nat.not_lt.mpr g1)) (fun q => by subst q; exact absurd hb (Nat.not_lt.mpr g2)) (J.keep b o e)
    · exact Nat.le_of_lt (Nat.lt_of_le_of_lt hL0 (Heap.lt_size (kp _ _ (hLz z (by simp)) (hLz i1 (by simp)) hL)))
    · obtain ⟨q1, a1, a2, a3, q2, q3⟩ := J.out k T e
      exact ⟨q1, a1, a2, a3, kp _ _ (fun q => by subst q; exact absurd q1 (Nat.not_le.mpr lz)) (fun q => by subst q; exact absurd q1 (Nat.not_le.mpr l1)) q2, q3⟩
  | succ k ih =>
    intro i h tk acc c Ts hk hi J hacc hL hR
    have hlt : i < n := by omega
    refine codeAny_builtin F.entry_extend_loop ?_
    rw [Around.under_plainId F.plain_extend_loop _]
    show wpAny _ A.in1 (pyNext (.ref z) >>= _) _ _ _
    have hsz : acc.size = i := by rw [← Array.length_toList, hacc, List.length_map, J.len]
    have go : ∀ (h' : Heap) (tk' : Nat), ZJ h0 N0 z TI TO i1 i2 i3 P1 P2 P3 St1 St2 St3 (i + 1) h' (Ts ++ [h.objs.size]) → h'.get? L = some { cls := .type "list", dict := none, data := .seq acc c, slots := #[] } →
        wpAny (model prog w) A.in1 (updateSeq L (·.push (Value.ref h.objs.size)) >>= fun _ => again (.builtin "list.extend.loop" ⟨[.ref L, .ref z, res], []⟩)) (fun fin s' => match fin with | .done f => R (.ok f) s' | .again c' => c'.quiet = true ∧ codeAny (model prog w) A c' R s') (fun e s' => R (.error e) s') { s with heap := h', toks := tk' } := fun h' tk' J' hL' => by
      refine wpAny_bind ?_
      refine wpAny_updateSeq hL' rfl (wpAny_pure ⟨plainId_quiet F.plain_extend_loop _, ?_⟩) (by rw [hsz]; have := sizeLine_eq; omega) (by show (acc.push _).size ≤ sizeLine + 1; rw [Array.size_push, hsz]; have := sizeLine_eq; omega)
      have oth : ∀ b o, b ≠ L → h'.get? b = some o → (h'.update L (Obj.mapSeq (·.push (Value.ref h.objs.size)))).get? b = some o := fun b o hb e => (Heap.get?_update_other _ _ (Ne.symm hb)).trans e
      refine ih (i + 1) _ tk' (acc.push (.ref h.objs.size)) _ (Ts ++ [h.objs.size]) (by omega) hlt ⟨?_, oth _ _ (hLz TI (by simp)).symm J'.ti, ?_, D1.frame _ _ _ J'.s1 fun b hb o e => oth b o (fun q => hLf.1 (q ▸ hb)) e, D2.frame _ _ _ J'.s2 fun b hb o e => oth b o (fun q => hLf.2.1 (q ▸ hb)) e, D3.frame _ _ _ J'.s3 fun b hb o e => oth b o (fun q => hLf.2.2 (q ▸ hb)) e, fun b o e => ?_, ?_, J'.len, J'.nd, fun T hT => by rw [Heap.size_update]; exact J'.lt T hT, fun k T e => ?_⟩ (by rw [Array.toList_push, hacc, List.map_append]; rfl) (Heap.get?_update_self _ hL' rfl) hR
      · rcases J'.zip with ⟨q, _⟩ | ⟨T, f, oT, a1, a2, a3⟩
        · omega
        · exact .inr ⟨T, f, oT, oth _ _ (hLz z (by simp)).symm a1, oth _ _ (fun q => by subst q; exact absurd a3 (Nat.not_le.mpr hLN)) a2, a3⟩
      · obtain ⟨a1, a2, a3, q⟩ := J'.to
        exact ⟨a1, a2, a3, oth _ _ (hLz TO (by simp)).symm q⟩
      · exact oth _ _ (fun q => by subst q; exact absurd (Heap.lt_size e) (Nat.not_lt.mpr hL0)) (J'.keep b o e)
      · rw [Heap.size_update]; exact J'.big
      · obtain ⟨q1, a1, a2, a3, q2, q3⟩ := J'.out k T e
        exact ⟨q1, a1, a2, a3, oth _ _ (fun q => by subst q; exact absurd q1 (Nat.not_le.mpr hLN)) q2, q3⟩
    have Lkeep : ∀ {h' : Heap}, (∀ c o, c ≠ z → c ≠ TO → c ≠ i1 → c ≠ i2 → c ≠ i3 → h.get? c = some o → h'.get? c = some o) → h'.get? L = some { cls := .type "list", dict := none, data := .seq acc c, slots := #[] } := fun kp => kp _ _ (hLz z (by simp)) (hLz TO (by simp)) (hLz i1 (by simp)) (hLz i2 (by simp)) (hLz i3 (by simp)) hL
    rcases J.zip with ⟨q, hz⟩ | ⟨T, f, oT, hz, hoT, bT⟩
    · obtain ⟨a1, a2, a3, hto⟩ := J.to
      refine wpAny_bind (wpAny_pyNext_zipD3_item (s := { s with heap := h, toks := tk }) S D1 D2 D3 hz J.ti hto J.s1 J.s2 J.s3 hlt hlt hlt fun x1 x2 x3 h' tk' y1 y2 y3 b1 b2 t1 t2 t3 tT sz kp => go h' tk' ?_ (Lkeep kp))
      exact J.step D1 lo hi0 nTI y1 y2 y3 (T' := h.objs.size) (f' := false) b1 ⟨_, tT⟩ J.big ⟨_, _, _, b2⟩ t1 t2 t3 tT sz kp
    · refine wpAny_bind (next_held_item (s := { s with heap := h, toks := tk }) S D1 D2 D3 hz hoT J.ti J.s1 J.s2 J.s3 hlt hlt hlt fun x1 x2 x3 h' tk' y1 y2 y3 b1 t1 t2 t3 tT sz kp => go h' tk' ?_ (Lkeep fun c o c1 c2 c3 c4 c5 e => kp c o c1 c3 c4 c5 e))
      have lT := lo
      obtain ⟨a1, a2, a3, hto⟩ := J.to
      have TOz : TO ≠ z := S.TOz
      have TO1 : TO ≠ i1 := fun e => S.Tf1 (by rw [e]; exact S.mem1)
      have TO2 : TO ≠ i2 := fun e => S.Tf2 (by rw [e]; exact S.mem2)
      have TO3 : TO ≠ i3 := fun e => S.Tf3 (by rw [e]; exact S.mem3)
      have nb : ∀ b ∈ [z, TO, TI, i1, i2, i3], T ≠ b := fun b hb q => by
        subst q
        exact absurd bT (Nat.not_le.mpr (lo T hb))
      exact J.step D1 lo hi0 nTI y1 y2 y3 (T' := T) (f' := true) b1 ⟨oT, kp _ _ (nb z (by simp)) (nb i1 (by simp)) (nb i2 (by simp)) (nb i3 (by simp)) hoT⟩ bT ⟨a1, a2, a3, kp _ _ TOz TO1 TO2 TO3 hto⟩ t1 t2 t3 tT sz fun c o c1 c2 c3 c4 c5 e => kp c o c1 c3 c4 c5 e
end
section
variable {prog : Program} {w : World} {A : Around} {E : Value → Shared → Prop} {s : Shared} {R : Result → Shared → Prop} {h0 : Heap} {N0 : Nat} {z TI TO i1 i2 i3 L : Addr} {fp1 fp2 fp3 : List Addr} {n : Nat} {P1 P2 P3 : Nat → Value → Prop} {St1 St2 St3 : Nat → Heap → Prop}
/-- a write at the new list does not touch the zip -/
theorem ZJ.over0 {h h' : Heap} {A' : Around} (D1 : Draws prog w A' i1 fp1 n P1 St1) (D2 : Draws prog w A' i2 fp2 n P2 St2) (D3 : Draws prog w A' i3 fp3 n P3 St3) (J : ZJ h0 N0 z TI TO i1 i2 i3 P1 P2 P3 St1 St2 St3 0 h []) (hLz : ∀ b ∈ [z, TO, TI, i1, i2, i3], L ≠ b) (hLf : L ∉ fp1 ∧ L ∉ fp2 ∧ L ∉ fp3) (hL0 : h0.objs.size ≤ L) (hLN : L < N0)
    (oth : ∀ b o, b ≠ L → h.get? b = some o → h'.get? b = some o) (sz : h.objs.size ≤ h'.objs.size) : ZJ h0 N0 z TI TO i1 i2 i3 P1 P2 P3 St1 St2 St3 0 h' [] := by
  refine ⟨?_, oth _ _ (hLz TI (by simp)).symm J.ti, ?_, D1.frame _ _ _ J.s1 fun b hb o e => oth b o (fun q => hLf.1 (q ▸ hb)) e, D2.frame _ _ _ J.s2 fun b hb o e => oth b o (fun q => hLf.2.1 (q ▸ hb)) e, D3.frame _ _ _ J.s3 fun b hb o e => oth b o (fun q => hLf.2.2 (q ▸ hb)) e, fun b o e => ?_, Nat.le_trans J.big sz, rfl, List.nodup_nil, (fun T hT => nomatch hT), fun k T e => by simp at e⟩
  · rcases J.zip with ⟨q, a⟩ | ⟨T, f, oT, a1, a2, a3⟩
    · exact .inl ⟨rfl, oth _ _ (hLz z (by simp)).symm a⟩
    · exact .inr ⟨T, f, oT, oth _ _ (hLz z (by simp)).symm a1, oth _ _ (fun q => by subst q; exact absurd a3 (Nat.not_le.mpr hLN)) a2, a3⟩
  · obtain ⟨a1, a2, a3, q⟩ := J.to
    exact ⟨a1, a2, a3, oth _ _ (hLz TO (by simp)).symm q⟩
  · exact oth _ _ (fun q => by subst q; exact absurd (Heap.lt_size e) (Nat.not_lt.mpr hL0)) (J.keep b o e)
abbrev Fin3 (h0 : Heap) (N0 n : Nat) (L : Addr) (P1 P2 P3 : Nat → Value → Prop) (h' : Heap) : Prop :=
  ∃ (acc : Array Value) (c : Nat) (Ts : List Addr), (∀ b o, h0.get? b = some o → h'.get? b = some o) ∧ acc.toList = Ts.map Value.ref ∧ Ts.length = n ∧ Ts.Nodup ∧ (∀ (k : Nat) (T : Addr), Ts[k]? = some T → N0 ≤ T ∧ ∃ x1 x2 x3, IsTupOf3 h' T x1 x2 x3 ∧ P1 k x1 ∧ P2 k x2 ∧ P3 k x3) ∧ h'.get? L = some { cls := .type "list", dict := none, data := .seq acc c, slots := #[] }
theorem extend3 (S : ZipSep3 z TI TO i1 i2 i3 fp1 fp2 fp3) (D1 : Draws prog w A.in1.in1 i1 fp1 n P1 St1) (D2 : Draws prog w A.in1.in1 i2 fp2 n P2 St2) (D3 : Draws prog w A.in1.in1 i3 fp3 n P3 St3) (hn1 : 1 ≤ n) (hn : n ≤ 1000)
    (lo : ∀ b ∈ [z, TO, TI, i1, i2, i3], b < N0) (hi0 : ∀ b ∈ [z, TO, TI, i1, i2, i3], h0.objs.size ≤ b) (hL0 : h0.objs.size ≤ L) (hLN : L < N0) (hLz : ∀ b ∈ [z, TO, TI, i1, i2, i3], L ≠ b) (hLf : L ∉ fp1 ∧ L ∉ fp2 ∧ L ∉ fp3) (res : Value) {h : Heap} {tk c0 : Nat}
    (hz : IsZip h z TI TO .none) (J : ZJ h0 N0 z TI TO i1 i2 i3 P1 P2 P3 St1 St2 St3 0 h []) (hL : h.get? L = some { cls := .type "list", data := .seq #[] c0 })
    (hR : ∀ (h' : Heap) (tk' : Nat), Fin3 h0 N0 n L P1 P2 P3 h' → R (.ok (.ret res)) { s with heap := h', toks := tk' }) :
    wpAny (model prog w) A.in1 (Builtin.List.listExtendWith (.ref L) (.ref z) res)
      (fun fin s' => match fin with | .done f => R (.ok f) s' | .again c' => c'.quiet = true ∧ codeAny (model prog w) A c' R s') (fun e s' => R (.error e) s') { s with heap := h, toks := tk } := by
  have hT : Shared.TypeIs { s with heap := h, toks := tk } (.ref z) "zip" := ⟨_, hz, rfl⟩
  unfold Builtin.List.listExtendWith
  refine wpAny_bind (wpAny_typeOf hT ?_)
  have h1 : Builtin.List.listSameRef (.ref L) (.ref z) = false := by simp [Builtin.List.listSameRef, hLz z (by simp)]
  have h2 : (Value.type "zip" == Value.type "list") = false := by decide
  have h3 : (Value.type "zip" == Value.type "tuple") = false := by decide
  simp only [h1, h2, h3, Bool.or_false, Bool.false_eq_true, if_false]
  refine wpAny_bind (wpAny_pyIter_zip hz ?_)
  refine wpAny_bind (wpAny_holding ?_)
  unfold Builtin.List.listLengthHint
  refine wpAny_bind (wpAny_specialOf hT zip_no_len ?_)
  show wpAny _ A.in1 (specialOf (Value.ref z) (Str.ofString "__length_hint__") >>= _) _ _ _
  refine wpAny_bind (wpAny_specialOf hT zip_no_hint ?_)
  refine wpAny_pure ?_
  show wpAny _ A.in1 (rule "list.extend.makes-room" >>= fun _ => Builtin.List.listTouch (.ref L) >>= fun _ =>
    again (.builtin "list.extend.loop" ⟨[.ref L, .ref z, res], []⟩)) _ _ _
  refine wpAny_bind (wpAny_rule ?_)
  refine wpAny_bind ?_
  show wpAny _ A.in1 (updateSeq L (·.push .none) >>= fun _ => updateSeq L (·.pop)) _ _ _
  refine wpAny_bind (wpAny_updateSeq hL rfl ?_)
  have hS2 := Heap.get?_update_self (Obj.mapSeq (·.push Value.none)) hL rfl
  refine wpAny_updateSeq (hz := by seq_fits) hS2 rfl ?_
  have hS3 := Heap.get?_update_self (Obj.mapSeq (·.pop)) hS2 rfl
  have oth : ∀ b o, b ≠ L → h.get? b = some o → ((h.update L (Obj.mapSeq (·.push Value.none))).update L (Obj.mapSeq (·.pop))).get? b = some o :=
    fun b o hb e => (Heap.get?_update_other _ _ (Ne.symm hb)).trans ((Heap.get?_update_other _ _ (Ne.symm hb)).trans e)
  refine wpAny_pure ⟨plainId_quiet F.plain_extend_loop _, loop3 S D1 D2 D3 hn1 hn lo hi0 L hL0 hLN hLz hLf res n 0 _ tk _ _ [] rfl (Nat.zero_le _)
    (J.over0 D1 D2 D3 hLz hLf hL0 hLN oth (by rw [Heap.size_update, Heap.size_update]; exact Nat.le_refl _)) rfl hS3 fun h' tk' acc' c' Ts' q1 q2 q3 q4 q7 q5 q6 => hR h' tk' ⟨acc', c', Ts', q1, q3, q4, q7, q5, q6⟩⟩
theorem init3 (S : ZipSep3 z TI TO i1 i2 i3 fp1 fp2 fp3) (D1 : Draws prog w A.in1.in1 i1 fp1 n P1 St1) (D2 : Draws prog w A.in1.in1 i2 fp2 n P2 St2) (D3 : Draws prog w A.in1.in1 i3 fp3 n P3 St3) (hn1 : 1 ≤ n) (hn : n ≤ 1000)
    (lo : ∀ b ∈ [z, TO, TI, i1, i2, i3], b < N0) (hi0 : ∀ b ∈ [z, TO, TI, i1, i2, i3], h0.objs.size ≤ b) (hL0 : h0.objs.size ≤ L) (hLN : L < N0) (hLz : ∀ b ∈ [z, TO, TI, i1, i2, i3], L ≠ b) (hLf : L ∉ fp1 ∧ L ∉ fp2 ∧ L ∉ fp3) {h : Heap} {tk : Nat}
    (hz : IsZip h z TI TO .none) (J : ZJ h0 N0 z TI TO i1 i2 i3 P1 P2 P3 St1 St2 St3 0 h []) (hL : h.get? L = some { cls := .type "list", data := .seq #[] })
    (hR : ∀ (h' : Heap) (tk' : Nat), Fin3 h0 N0 n L P1 P2 P3 h' → R (.ok (.ret .none)) { s with heap := h', toks := tk' }) :
    wpAny (model prog w) A.in1 (Builtin.«list.__init__» ⟨[.ref L, .ref z], []⟩)
      (fun fin s' => match fin with | .done f => R (.ok f) s' | .again c' => c'.quiet = true ∧ codeAny (model prog w) A c' R s') (fun e s' => R (.error e) s') { s with heap := h, toks := tk } := by
  show wpAny _ A.in1 (do let old ← Builtin.List.listItems (.ref L); Builtin.List.listUpdate (.ref L) (fun _ => #[]); letGo old.toList.reverse; Builtin.List.listExtendWith (.ref L) (.ref z) .none) _ _ _
  refine wpAny_bind ?_
  unfold Builtin.List.listItems
  refine wpAny_bind (wpAny_seqItems hL rfl (wpAny_pure ?_))
  show wpAny _ A.in1 (updateSeq L (fun _ => #[]) >>= fun _ => letGo (#[] : Array Value).toList.reverse >>= fun _ => Builtin.List.listExtendWith (.ref L) (.ref z) .none) _ _ _
  refine wpAny_bind (wpAny_updateSeq hL rfl ?_)
  have hS2 := Heap.get?_update_self (Obj.mapSeq (fun _ => (#[] : Array Value))) hL rfl
  have oth : ∀ b o, b ≠ L → h.get? b = some o → (h.update L (Obj.mapSeq (fun _ => (#[] : Array Value)))).get? b = some o :=
    fun b o hb e => (Heap.get?_update_other _ _ (Ne.symm hb)).trans e
  refine wpAny_bind (wpAny_letGo ?_)
  exact extend3 S D1 D2 D3 hn1 hn lo hi0 hL0 hLN hLz hLf .none (oth _ _ (hLz z (by simp)).symm hz) (J.over0 D1 D2 D3 hLz hLf hL0 hLN oth (by rw [Heap.size_update]; exact Nat.le_refl _)) hS2 hR
theorem call_list3 {Q : Value → Shared → Prop} (S : ZipSep3 z TI TO i1 i2 i3 fp1 fp2 fp3) (D1 : Draws prog w A.in1.in1.in1 i1 fp1 n P1 St1) (D2 : Draws prog w A.in1.in1.in1 i2 fp2 n P2 St2) (D3 : Draws prog w A.in1.in1.in1 i3 fp3 n P3 St3) (hn1 : 1 ≤ n) (hn : n ≤ 1000)
    (hi0 : ∀ b ∈ [z, TO, TI, i1, i2, i3], h0.objs.size ≤ b) (lo : ∀ b ∈ [z, TO, TI, i1, i2, i3], b < s.heap.objs.size) (hf : (∀ b ∈ fp1, b < s.heap.objs.size) ∧ (∀ b ∈ fp2, b < s.heap.objs.size) ∧ ∀ b ∈ fp3, b < s.heap.objs.size) (h00 : h0.objs.size ≤ s.heap.objs.size)
    (hz : IsZip s.heap z TI TO .none) (hTI : IsTupOf3 s.heap TI (.ref i1) (.ref i2) (.ref i3)) (hTO : ∃ a1 a2 a3, IsTupOf3 s.heap TO a1 a2 a3) (st1 : St1 0 s.heap) (st2 : St2 0 s.heap) (st3 : St3 0 s.heap) (kp : ∀ b o, h0.get? b = some o → s.heap.get? b = some o)
    (hQ : ∀ (h' : Heap) (tk' : Nat), Fin3 h0 (s.heap.objs.size + 1) n s.heap.objs.size P1 P2 P3 h' → Q (.ref s.heap.objs.size) { s with heap := h', toks := tk' }) :
    wpAny (model prog w) A (call (.type "list") [.ref z]) Q E s := by
  refine callType_codes (Q₁ := fun obj s₁ => obj = .ref s.heap.objs.size ∧ s₁ = { s with heap := s.heap.push { cls := .type "list", data := .seq #[] } }) F.called_list (F.typeCall_list_1 _) F.entry_list_init
    (code_list_new _ ⟨rfl, rfl⟩) fun obj s₁ h₁ => ?_
  obtain ⟨rfl, rfl⟩ := h₁
  have hS : (s.heap.push { cls := .type "list", data := .seq #[] }).get? s.heap.objs.size = some { cls := .type "list", data := .seq #[] } := Heap.get?_push_size _ rfl
  have up : ∀ b o, s.heap.get? b = some o → (s.heap.push { cls := .type "list", data := .seq #[] }).get? b = some o := fun b o e => Heap.get?_push_of_some _ e
  have nL : ∀ b ∈ [z, TO, TI, i1, i2, i3], s.heap.objs.size ≠ b := fun b hb q => absurd (lo b hb) (by rw [q]; exact Nat.lt_irrefl _)
  have hne : ∀ (fp : List Addr), (∀ b ∈ fp, b < s.heap.objs.size) → s.heap.objs.size ∉ fp := fun fp h q => Nat.lt_irrefl _ (h _ q)
  refine ⟨⟨_, hS, rfl⟩, F.args_list_init_2 _ _, init3 (s := s) (tk := s.toks) S D1 D2 D3 hn1 hn (fun b hb => Nat.lt_succ_of_lt (lo b hb)) hi0 h00 (Nat.lt_succ_self _) nL ⟨hne _ hf.1, hne _ hf.2.1, hne _ hf.2.2⟩ (up _ _ hz) ⟨.inl ⟨rfl, up _ _ hz⟩, up _ _ hTI, ?_, D1.frame _ _ _ st1 fun b _ o e => up b o e, D2.frame _ _ _ st2 fun b _ o e => up b o e, D3.frame _ _ _ st3 fun b _ o e => up b o e, fun b o e => up _ _ (kp b o e), by rw [Heap.size_push]; exact Nat.le_refl _, rfl, List.nodup_nil, (fun T hT => nomatch hT), fun k T e => by simp at e⟩ hS fun h' tk' F3 => ?_⟩
  · obtain ⟨a1, a2, a3, q⟩ := hTO
    exact ⟨a1, a2, a3, up _ _ q⟩
  · exact ⟨rfl, hQ h' tk' F3⟩
end
end QB
/-! ### list(zip(x, y, z)): the rule -/
namespace QB
open PySem PySem.Spec PyProof.Rows L2
/-! #### many new objects -/
def layM (f : Addr → Option HO) (H : Hp) : Hp := fun b => (f b).or (H b)
section
variable {f : Addr → Option HO} {H Hs : Hp} {h h' : Heap} {n : Nat}
theorem lay_some {b : Addr} {o : HO} (e : f b = some o) : layM f H b = some o := by unfold layM; rw [e]; rfl
theorem lay_none {b : Addr} (e : f b = none) : layM f H b = H b := by unfold layM; rw [e]; rfl
theorem f_old (hf : ∀ b o, f b = some o → n ≤ b) {b : Addr} (hb : b < n) : f b = none := by
  cases q : f b with
  | none => rfl
  | some o => exact absurd (hf b o q) (Nat.not_le.mpr hb)
theorem un_many {fs ex : List Addr} {P : Program} {w : World} (ok : HOk P w H h) (k : ∀ b u, h.get? b = some u → h'.get? b = some u) (hf : ∀ b o, f b = some o → h.objs.size ≤ b) : L2.Un fs ex H (layM f H) h h' where
  keep := fun b u q _ _ _ => k b u q
  slot := fun b u q _ _ _ => ⟨u.slots, k b u q⟩
  free := fun b u q n _ => by rw [lay_none (f_old hf (Heap.lt_size q))]; exact n
  there := fun b u q _ => ⟨u, k b u q⟩
  tups := fun b xs q => by rw [lay_none (f_old hf (ok.lt q))]; exact q
  frzs := fun b u xs q => by rw [lay_none (f_old hf (ok.lt q))]; exact q
  tbls := fun b ps q => ⟨#[], by rw [lay_none (f_old hf (ok.lt q)), q]; simp⟩
theorem hok_many {P : Program} {w : World} (ok : HOk P w H h) (k : ∀ b u, h.get? b = some u → h'.get? b = some u) (hf : ∀ b o, f b = some o → h.objs.size ≤ b) (new : ∀ b o, f b = some o → ObjOk P w (layM f H) h' b o) : HOk P w (layM f H) h' := fun b u e => by
  cases q : f b with
  | some o =>
    rw [lay_some q] at e
    cases e
    exact new b _ q
  | none =>
    rw [lay_none q] at e
    exact (ok b u e).stay (fun c v _ q => k c v q) (fun c q => by rw [lay_none (f_old hf (ok.lt q))]; exact q) fun c xs q => by rw [lay_none (f_old hf (ok.lt q))]; exact q
theorem ext_many (sub : Same Hs H) (hn : ∀ b o, f b = some o → H b = none) : Ext Hs H (layM f Hs) (layM f H) := by
  have fn : ∀ {b : Addr} {o : HO}, H b = some o → f b = none := fun {b o} e => by
    cases q : f b with
    | none => rfl
    | some u => rw [hn b u q] at e; cases e
  refine ⟨fun b o e => ?_, fun b o e => ?_, fun b o e => ?_, fun b h1 h2 => ?_⟩
  · rw [lay_none (fn (sub b o e))]; exact e
  · rw [lay_none (fn e)]; exact e
  · cases q : f b with
    | some u =>
      rw [lay_some q] at e ⊢
      exact e
    | none =>
      rw [lay_none q] at e ⊢
      exact sub b o e
  · cases q : H b with
    | none => exact absurd q h1
    | some o => rw [lay_none (fn q)]; exact h2
end
theorem dda_get {H : Hp} : ∀ {vs : List V} {ds : List PyData}, vs.length = ds.length → (∀ (k : Nat) v d, vs[k]? = some v → ds[k]? = some d → Dd H v d) → DdAll H vs ds
  | [], [], _, _ => .nil
  | [], _ :: _, h, _ => by cases h
  | _ :: _, [], h, _ => by cases h
  | v :: vs, d :: ds, h, g => .cons (g 0 v d rfl rfl) (dda_get (by simpa using h) fun k v d a b => g (k + 1) v d (by simpa using a) (by simpa using b))
def tripL (ds es fs : List PyData) : List PyData := List.zipWith (fun x (p : PyData × PyData) => .tuple [x, p.1, p.2]) ds (es.zip fs)
theorem tripL_len {ds es fs : List PyData} (h1 : ds.length = es.length) (h2 : ds.length = fs.length) : (tripL ds es fs).length = ds.length := by
  unfold tripL
  rw [List.length_zipWith, List.length_zip]
  omega
theorem tripL_get {ds es fs : List PyData} {k : Nat} {x : PyData} (h : (tripL ds es fs)[k]? = some x) : ∃ d e f, ds[k]? = some d ∧ es[k]? = some e ∧ fs[k]? = some f ∧ x = .tuple [d, e, f] := by
  unfold tripL at h
  rw [List.getElem?_zipWith, List.zip, List.getElem?_zipWith] at h
  cases h1 : ds[k]? with
  | none => rw [h1] at h; cases h
  | some d =>
    cases h2 : es[k]? with
    | none => rw [h1, h2] at h; cases h
    | some e =>
      cases h3 : fs[k]? with
      | none => rw [h1, h2, h3] at h; cases h
      | some f =>
        rw [h1, h2, h3] at h
        exact ⟨d, e, f, rfl, rfl, rfl, (Option.some.inj h).symm⟩
section
variable {X : Cx} {pins : List (Addr × Obj)} {σ : L2.St} {H Hs : Hp} {s : Shared}
/-- what lies at the new addresses -/
def newF (L : Addr) (Ts : List Addr) (xs ys zs : List V) : Addr → Option HO := fun b => if b = L then some (.lst (Ts.map .ref)) else if b ∈ Ts then (match xs[Ts.idxOf b]?, ys[Ts.idxOf b]?, zs[Ts.idxOf b]? with | some x, some y, some z => some (.tup [x, y, z]) | _, _, _ => none) else none
theorem newF_L {L : Addr} {Ts : List Addr} {xs ys zs : List V} : newF L Ts xs ys zs L = some (.lst (Ts.map .ref)) := by unfold newF; rw [if_pos rfl]
theorem newF_T {L T : Addr} {Ts : List Addr} {xs ys zs : List V} {k : Nat} {x y z : V} (nd : Ts.Nodup) (hL : ∀ T ∈ Ts, T ≠ L) (e : Ts[k]? = some T) (e1 : xs[k]? = some x) (e2 : ys[k]? = some y) (e3 : zs[k]? = some z) : newF L Ts xs ys zs T = some (.tup [x, y, z]) := by
  have hm := List.mem_of_getElem? e
  have hk : Ts.idxOf T = k := by
    obtain ⟨h1, h2⟩ := List.getElem?_eq_some_iff.mp e
    rw [← h2]
    exact nd.idxOf_getElem k h1
  unfold newF
  rw [if_neg (hL T hm), if_pos hm, hk, e1, e2, e3]
theorem fin_zip {s' : Shared} {L : Addr} {N0 n : Nat} {Ts : List Addr} {acc : Array Value} {c : Nat} {xs ys zs : List V} {ds es fs : List PyData} {Q : VK} (I : Inv X pins σ H s) (sub : Same Hs H) (o1 : s'.os = s.os) (g1 : s'.gens = s.gens) (kp : ∀ b o, s.heap.get? b = some o → s'.heap.get? b = some o)
    (hacc : acc.toList = Ts.map Value.ref) (hlen : Ts.length = n) (hn : n ≤ 1000) (nd : Ts.Nodup) (hL0 : s.heap.objs.size ≤ L) (hLN : L < N0) (hL : s'.heap.get? L = some { cls := .type "list", dict := none, data := .seq acc c, slots := #[] })
    (out : ∀ (k : Nat) (T : Addr), Ts[k]? = some T → N0 ≤ T ∧ ∃ x1 x2 x3 u1 u2 u3, IsTupOf3 s'.heap T u1 u2 u3 ∧ xs[k]? = some x1 ∧ RelV x1 u1 ∧ ys[k]? = some x2 ∧ RelV x2 u2 ∧ zs[k]? = some x3 ∧ RelV x3 u3)
    (hd : DdAll Hs xs ds) (he : DdAll Hs ys es) (hf : DdAll Hs zs fs) (l1 : ds.length = n) (l2 : ds.length = es.length) (l3 : ds.length = fs.length)
    (hq : PostG (fun _ _ => False) Hs H (.ok (.list (tripL ds es fs))) okD Q) : EP X pins σ Q (.ref L) s' := by
  have hTL : ∀ T ∈ Ts, T ≠ L := fun T hT q => by
    obtain ⟨k, hk⟩ := List.getElem?_of_mem hT
    have := (out k T hk).1
    rw [q] at this
    exact absurd this (Nat.not_le.mpr hLN)
  have fT : ∀ (k : Nat) (T : Addr), Ts[k]? = some T → ∃ x1 x2 x3 u1 u2 u3, newF L Ts xs ys zs T = some (.tup [x1, x2, x3]) ∧ IsTupOf3 s'.heap T u1 u2 u3 ∧ xs[k]? = some x1 ∧ RelV x1 u1 ∧ ys[k]? = some x2 ∧ RelV x2 u2 ∧ zs[k]? = some x3 ∧ RelV x3 u3 := fun k T e => by
    obtain ⟨_, x1, x2, x3, u1, u2, u3, q0, q1, q2, q3, q4, q5, q6⟩ := out k T e
    exact ⟨x1, x2, x3, u1, u2, u3, newF_T nd hTL e q1 q3 q5, q0, q1, q2, q3, q4, q5, q6⟩
  have fcase : ∀ b o, newF L Ts xs ys zs b = some o → b = L ∨ b ∈ Ts := fun b o e => by
    unfold newF at e
    by_cases h1 : b = L
    · exact .inl h1
    · rw [if_neg h1] at e
      by_cases h2 : b ∈ Ts
      · exact .inr h2
      · rw [if_neg h2] at e; cases e
  have fbig : ∀ b o, newF L Ts xs ys zs b = some o → s.heap.objs.size ≤ b := fun b o e => by
    rcases fcase b o e with q | q
    · rw [q]; exact hL0
    · obtain ⟨k, hk⟩ := List.getElem?_of_mem q
      exact Nat.le_trans hL0 (Nat.le_trans (Nat.le_of_lt hLN) (out k b hk).1)
  have hok : HOk X.prog X.w (layM (newF L Ts xs ys zs) H) s'.heap := hok_many I.hok kp fbig fun b o e => by
    rcases fcase b o e with q | q
    · subst q
      rw [newF_L] at e
      cases e
      refine ⟨by rw [List.length_map, hlen, sizeLine_eq]; omega, Ts.map Value.ref, c, ?_, ?_⟩
      · clear hacc hlen nd out hTL fT fcase fbig
        induction Ts with
        | nil => exact .nil
        | cons T Ts ih => exact .cons rfl ih
      · rw [← hacc]; exact hL
    · obtain ⟨k, hk⟩ := List.getElem?_of_mem q
      obtain ⟨x1, x2, x3, u1, u2, u3, q0, q1, _, r1, _, r2, _, r3⟩ := fT k b hk
      rw [q0] at e
      cases e
      exact ⟨by rw [sizeLine_eq]; show 3 ≤ 16777216; decide, [u1, u2, u3], .cons r1 (.cons r2 (.cons r3 .nil)), _, q1, rfl, _, rfl⟩
  have I2 : Inv X pins σ (layM (newF L Ts xs ys zs) H) s' := I.call' (ch := []) o1 (un_many I.hok kp fbig) hok (by rw [g1]; exact I.bare) (fun _ z => nomatch z)
  have fnone : ∀ b o, newF L Ts xs ys zs b = some o → H b = none := fun b o e => I.hok.fresh (fbig b o e)
  have ext := ext_many (f := newF L Ts xs ys zs) sub fnone
  refine ⟨.ref L, _, I2, rfl, hq (.ref L) (layM (newF L Ts xs ys zs) Hs) _ ext ?_⟩
  refine .lst (.inl (lay_some newF_L)) (dda_get (by rw [List.length_map, hlen, tripL_len l2 l3, l1]) fun k v d e1 e2 => ?_)
  rw [List.getElem?_map] at e1
  cases hT : Ts[k]? with
  | none => rw [hT] at e1; cases e1
  | some T =>
    rw [hT] at e1
    cases e1
    obtain ⟨x1, x2, x3, u1, u2, u3, q0, q1, a1, _, a2, _, a3, _⟩ := fT k T hT
    obtain ⟨d1, d2, d3, b1, b2, b3, rfl⟩ := tripL_get e2
    obtain ⟨d1', c1, c1'⟩ := dpaGetV hd a1
    obtain ⟨d2', c2, c2'⟩ := dpaGetV he a2
    obtain ⟨d3', c3, c3'⟩ := dpaGetV hf a3
    rw [b1] at c1
    rw [b2] at c2
    rw [b3] at c3
    cases c1
    cases c2
    cases c3
    exact .tup (.inl (lay_some q0)) (.cons (dpMono ext.s _ c1') (.cons (dpMono ext.s _ c2') (.cons (dpMono ext.s _ c3') .nil)))
end
section
variable {X : Cx} {W : WX} {a b c : Expr} {ma mb mc : Env → R PyData}
theorem vals3 {x y z : V} {us : List Value} (r : Vals [x, y, z] us) : ∃ u v w, us = [u, v, w] ∧ RelV x u ∧ RelV y v ∧ RelV z w := by
  cases r with
  | cons r1 t =>
    cases t with
    | cons r2 t =>
      cases t with
      | cons r3 t => cases t; exact ⟨_, _, _, rfl, r1, r2, r3⟩
def tLz (ta : TA) : TE := fun σ H Q => ta σ H fun vs H1 => ∃ Hs v w x d e f ds es fs, vs = [v, w, x] ∧ Same Hs H1 ∧ Dd Hs v d ∧ Dd Hs w e ∧ Dd Hs x f ∧ seqOf d = some ds ∧ seqOf e = some es ∧ seqOf f = some fs ∧ (1 ≤ ds.length ∧ ds.length = es.length ∧ ds.length = fs.length ∧ ds.length ≤ 1000) ∧ PostG (fun _ _ => False) Hs H1 (.ok (.list (tripL ds es fs))) okD Q
theorem pe_lz {p p2 q pos : Pos} {ta : TA} (hc : X.calm = true) (b1 : BltT X "list" "list") (b2 : BltT X "zip" "zip") (ha : PA X [a, b, c] ta) (hs : noStar a = true) (hs2 : noStar b = true) (hs3 : noStar c = true) :
    PE X (.Call (.Name "list" p) [.Call (.Name "zip" p2) [a, b, c] [] q] [] pos) (tLz ta) := by
  refine ⟨fun pins s σ H Q I h => ?_⟩
  refine Call_ (ld_blt I b1.1 b1.2.1 b1.2.2.1 (PyProof.Rows.callWith_type1 (PyProof.Rows.args_cons ?_ rfl) rfl rfl))
  refine Call_ (ld_blt I b2.1 b2.2.1 b2.2.2.1 (PyProof.Rows.callWith_type1 (thn (ha.run q pins s σ H _ I h) fun us s1 ⟨vs, H1, I1, r1, q1⟩ => ?_) (star_cons hs) (noplain (by simp [hs2, hs3]))))
  obtain ⟨Hs, v, w, x, d, e, f, ds, es, fs, rfl, sub, hd, he, hf, sd, se, sf, ⟨n1, l2, l3, n2⟩, hq⟩ := q1
  obtain ⟨u1, u2, u3, rfl, ru1, ru2, ru3⟩ := vals3 r1
  obtain ⟨S1, xs, rfl, h1, hdd⟩ := seq_sd hd ru1 sd
  obtain ⟨S2, ys, rfl, h2, hee⟩ := seq_sd he ru2 se
  obtain ⟨S3, zs, rfl, h3, hff⟩ := seq_sd hf ru3 sf
  have lx : xs.length = ds.length := dpaLen hdd
  have ly : ys.length = ds.length := by rw [dpaLen hee, l2]
  have lz : zs.length = ds.length := by rw [dpaLen hff, l3]
  obtain ⟨Hb1, B1, c1⟩ := S1.begins I1 (Sd.mono sub h1)
  obtain ⟨Hb2, B2, c2⟩ := S2.begins I1 (Sd.mono sub h2)
  obtain ⟨Hb3, B3, c3⟩ := S3.begins I1 (Sd.mono sub h3)
  have f1 := Sd.lt I1 (Sd.mono sub h1)
  have f2 := Sd.lt I1 (Sd.mono sub h2)
  have f3 := Sd.lt I1 (Sd.mono sub h3)
  have hh : X.A.in1.in1.in1.handled = none := I1.ok.hd hc
  refine zip_begins3 B1 B2 B3 c1 c2 c3 fun h' hz hTI hTO g1 g2 g3 hsz hk => PyProof.Rows.args_nil ?_
  have I2 : Inv X pins σ H1 { s1 with heap := h' } := I1.kept (t' := s1.toks) hk
  obtain ⟨St1, P1, D1, a1, _, e1⟩ := S1.draws (A := X.A.in1.in1.in1) (it := s1.heap.objs.size) I2 (Sd.mono sub h1) hh (fun z => absurd (f1 _ z) (Nat.lt_irrefl _))
  obtain ⟨St2, P2, D2, a2, _, e2⟩ := S2.draws (A := X.A.in1.in1.in1) (it := s1.heap.objs.size + 1) I2 (Sd.mono sub h2) hh (fun z => absurd (f2 _ z) (Nat.not_lt.mpr (Nat.le_add_right _ 1)))
  obtain ⟨St3, P3, D3, a3, _, e3⟩ := S3.draws (A := X.A.in1.in1.in1) (it := s1.heap.objs.size + 2) I2 (Sd.mono sub h3) hh (fun z => absurd (f3 _ z) (Nat.not_lt.mpr (Nat.le_add_right _ 2)))
  rw [lx] at D1
  rw [ly] at D2
  rw [lz] at D3
  have mem : ∀ b ∈ [s1.heap.objs.size + 5, s1.heap.objs.size + 4, s1.heap.objs.size + 3, s1.heap.objs.size, s1.heap.objs.size + 1, s1.heap.objs.size + 2], s1.heap.objs.size ≤ b ∧ b < s1.heap.objs.size + 6 := fun b hb => by
    simp only [List.mem_cons, List.not_mem_nil, or_false] at hb
    omega
  have sz : h'.objs.size = s1.heap.objs.size + 6 := hsz
  refine call_list3 (s := { s1 with heap := h' }) (h0 := s1.heap) (zip_sep3 f1 f2 f3) D1 D2 D3 n1 n2 (fun b hb => (mem b hb).1) (fun b hb => by show b < h'.objs.size; rw [sz]; exact (mem b hb).2) ⟨fun b hb => ?_, fun b hb => ?_, fun b hb => ?_⟩ (by show s1.heap.objs.size ≤ h'.objs.size; omega) hz hTI ⟨_, _, _, hTO⟩ (a1 0 _ (fun _ _ _ e => e) (Sd.start g1)) (a2 0 _ (fun _ _ _ e => e) (Sd.start g2)) (a3 0 _ (fun _ _ _ e => e) (Sd.start g3)) hk fun h2' tk' F3 => ?_
  · show b < h'.objs.size
    rw [sz]
    rcases List.mem_cons.mp hb with z | z
    · rw [z]; exact Nat.add_lt_add_left (show 0 < 6 by decide) _
    · exact Nat.lt_of_lt_of_le (f1 b z) (Nat.le_add_right _ _)
  · show b < h'.objs.size
    rw [sz]
    rcases List.mem_cons.mp hb with z | z
    · rw [z]; exact Nat.add_lt_add_left (show 1 < 6 by decide) _
    · exact Nat.lt_of_lt_of_le (f2 b z) (Nat.le_add_right _ _)
  · show b < h'.objs.size
    rw [sz]
    rcases List.mem_cons.mp hb with z | z
    · rw [z]; exact Nat.add_lt_add_left (show 2 < 6 by decide) _
    · exact Nat.lt_of_lt_of_le (f3 b z) (Nat.le_add_right _ _)
  · obtain ⟨acc, cc, Ts, kp, hacc, hlen, nd, out, hL⟩ := F3
    refine fin_zip (N0 := h'.objs.size + 1) I1 sub rfl rfl kp hacc hlen n2 nd (by show s1.heap.objs.size ≤ h'.objs.size; omega) (Nat.lt_succ_self _) hL (fun k T eT => ?_) hdd hee hff rfl l2 l3 hq
    obtain ⟨q0, x1, x2, x3, qT, p1, p2, p3⟩ := out k T eT
    obtain ⟨y1, t1, r1⟩ := e1 k x1 p1
    obtain ⟨y2, t2, r2⟩ := e2 k x2 p2
    obtain ⟨y3, t3, r3⟩ := e3 k x3 p3
    exact ⟨q0, y1, y2, y3, x1, x2, x3, qT, t1, r1, t2, r2, t3, r3⟩
theorem de_lz {p p2 q pos : Pos} (hc : X.calm = true) (b1 : BltT X "list" "list") (b2 : BltT X "zip" "zip") (hs : noStar a = true) (hs2 : noStar b = true) (hs3 : noStar c = true) (ha : DE X W a ma) (hb : DE X W b mb) (hcc : DE X W c mc) :
    DE X W (.Call (.Name "list" p) [.Call (.Name "zip" p2) [a, b, c] [] q] [] pos) (fun ρ => ((ma ρ).bind fun d => (mb ρ).bind fun e => (mc ρ).bind fun f => R.of (seqOf d) fun ds => R.of (seqOf e) fun es => R.of (seqOf f) fun fs =>
      R.when (decide (1 ≤ ds.length ∧ ds.length = es.length ∧ ds.length = fs.length ∧ ds.length ≤ 1000)) (.ok (List.zipWith (fun x (p : PyData × PyData) => .tuple [x, p.1, p.2]) ds (es.zip fs)))).bind fun ds => .ok (.list ds)) := by
  obtain ⟨ta, pa, qa⟩ := ha
  obtain ⟨tb, pb, qb⟩ := hb
  obtain ⟨tc, pc, qc⟩ := hcc
  refine ⟨_, pe_lz hc b1 b2 (pa_cons pa (pa_cons pb (pa_cons pc pa_nil (star_cons hs3)) (star_cons hs2)) (star_cons hs)) hs hs2 hs3, fun ρ σ Hs H Q r h => ?_⟩
  have as : ∀ {α β γ : Type} (x : R α) (f : α → R β) (g : β → R γ), (x.bind f).bind g = x.bind fun a => (f a).bind g := fun x f g => by cases x <;> rfl
  simp only [as] at h
  refine qa ρ σ Hs H _ r (h.seq fun d v Hs1 H1 _ e1 o1 h1 => ?_)
  refine qb ρ σ Hs1 H1 _ (r.ext e1) (h1.seq fun e w Hs2 H2 _ e2 o2 h2 => ?_)
  refine qc ρ σ Hs2 H2 _ ((r.ext e1).ext e2) (h2.seq fun f x Hs3 H3 _ e3 o3 h3 => ?_)
  have of_bind : ∀ {α β γ : Type} (o : Option α) (f : α → R β) (g : β → R γ), (R.of o f).bind g = R.of o fun a => (f a).bind g := fun o f g => by cases o <;> rfl
  have when_bind : ∀ {β γ : Type} (c : Bool) (x : R β) (g : β → R γ), (R.when c x).bind g = R.when c (x.bind g) := fun c x g => by cases c <;> rfl
  have ok_bind : ∀ {β γ : Type} (x : β) (g : β → R γ), (R.ok x).bind g = g x := fun x g => rfl
  simp only [of_bind, when_bind, ok_bind] at h3
  obtain ⟨ds, hd, h3⟩ := PostG.of h3
  obtain ⟨es, he, h3⟩ := PostG.of h3
  obtain ⟨fs, hf, h3⟩ := PostG.of h3
  obtain ⟨hg, h3⟩ := PostG.when h3
  exact ⟨Hs3, v, w, x, d, e, f, ds, es, fs, rfl, e3.sub, dpMono (e2.trans e3).s d o1, dpMono e3.s e o2, o3, hd, he, hf, of_decide_eq_true hg, h3.firm fun c z => nomatch z⟩
end
end QB
set_option maxHeartbeats 1000000
/-! ### xs[::-1] of a list or of a tuple -/
namespace QB
open PySem PySem.Spec PyProof.Rows L2
section
variable {prog : Program} {w : World} {A : Around} {E : Value → Shared → Prop} {s : Shared}
theorem adjust_rev (n : Nat) : Builtin.Slice.sliceAdjust none none (-1) (n : Int) = ((n : Int) - 1, -1) := rfl
theorem places_rev (n : Nat) : Builtin.Slice.slicePlaces ((n : Int) - 1) (-1) (-1) = n := by
  unfold Builtin.Slice.slicePlaces
  rw [if_neg (by decide)]
  split
  · simp only [Int.neg_neg, Int.ediv_one]; omega
  · omega
theorem fm_congr {α β : Type} {f g : α → Option β} : ∀ (l : List α), (∀ x ∈ l, f x = g x) → l.filterMap f = l.filterMap g
  | [], _ => rfl
  | a :: l, h => by
    rw [List.filterMap_cons, List.filterMap_cons, h a List.mem_cons_self, fm_congr l fun x hx => h x (List.mem_cons_of_mem _ hx)]
theorem pick_rev (xs : Array Value) : ((List.range xs.size).filterMap fun (k : Nat) => xs[(((xs.size : Int) - 1) + (k : Int) * (-1)).toNat]?) = xs.toList.reverse := by
  have e : (List.range xs.size).filterMap (fun (k : Nat) => xs[(((xs.size : Int) - 1) + (k : Int) * (-1)).toNat]?) = (List.range xs.size).filterMap fun k => xs.toList.reverse[k]? := by
    refine fm_congr _ fun k hk => ?_
    have hk := List.mem_range.mp hk
    rw [List.getElem?_reverse (by rw [Array.length_toList]; exact hk), Array.length_toList, Array.getElem?_toList]
    congr 1
    omega
  rw [e]
  have h : ∀ l : List Value, (List.range l.length).filterMap (fun k => l[k]?) = l := by
    intro l
    induction l with
    | nil => rfl
    | cons a l ih =>
      rw [List.length_cons, List.range_succ_eq_map, List.filterMap_cons, List.filterMap_map]
      show a :: (List.range l.length).filterMap (fun k => l[k]?) = _
      rw [ih]
  have := h xs.toList.reverse
  rwa [List.length_reverse, Array.length_toList] at this
theorem sliceApplied_rev {sl : Addr} {vl vu vs : Value} {n : Nat} {Q : Int × Int × Nat → Shared → Prop} (hs : s.heap.IsSliceOf sl vl vu vs) (pl : IsPart vl none) (pu : IsPart vu none) (ps : IsPart vs (some (-1)))
    (h : Q ((n : Int) - 1, -1, n) s) : wpAny (model prog w) A (Builtin.Slice.sliceApplied (.ref sl) (pure (n : Int))) Q E s := by
  obtain ⟨os, hos, hcs, hds⟩ := id hs
  unfold Builtin.Slice.sliceApplied Builtin.Slice.sliceFields
  refine wpAny_bind (wpAny_bind (wpAny_field hos hds (x := vl) rfl (wpAny_bind (wpAny_field hos hds (x := vu) rfl (wpAny_bind (wpAny_field hos hds (x := vs) rfl (wpAny_pure ?_)))))))
  refine wpAny_bind (HT.slicePart_ ps ?_)
  show wpAny _ _ (if ((-1 : Int) == 0) = true then _ else _) _ _ s
  rw [if_neg (by decide)]
  refine wpAny_bind (HT.slicePart_ pl (wpAny_bind (HT.slicePart_ pu (wpAny_bind (wpAny_pure ?_)))))
  show wpAny _ _ (match Builtin.Slice.sliceAdjust none none (-1) (n : Int) with | (lo, hi) => pure (lo, (-1 : Int), Builtin.Slice.slicePlaces lo hi (-1))) _ _ s
  rw [adjust_rev n]
  show wpAny _ _ (pure ((n : Int) - 1, (-1 : Int), Builtin.Slice.slicePlaces ((n : Int) - 1) (-1) (-1))) _ _ s
  rw [places_rev]
  exact wpAny_pure h
theorem getItem_tuple_rev {t sl : Addr} {items : Array Value} {vl vu vs : Value} {Q : Value → Shared → Prop} (ht : IsTup s.heap t items) (hs : s.heap.IsSliceOf sl vl vu vs) (pl : IsPart vl none) (pu : IsPart vu none) (ps : IsPart vs (some (-1)))
    (h : Q (.ref s.heap.objs.size) { s with heap := s.heap.push { cls := .type "tuple", data := .seq items.toList.reverse.toArray } })
    (hsz : items.size ≤ sizeLine) : wpAny (model prog w) A (getItem (.ref t) (.ref sl)) Q E s := by
  have htake : sizeOk (.seq items.toList.reverse.toArray) := by
    show items.toList.reverse.toArray.size ≤ sizeLine
    rw [List.size_toArray, List.length_reverse, Array.length_toList]
    omega
  obtain ⟨os, hos, hcs, hds⟩ := id hs
  have hTs : s.TypeIs (.ref sl) "slice" := ⟨os, hos, hcs⟩
  unfold getItem
  try with_reducible refine wpAny_holding ?_
  first | refine wpAny_bind (wpAny_pure ?_) | skip
  refine wpAny_bind (wpAny_sequenceKey ht.typeIs (by decide) ?_)
  refine wpAny_bind (wpAny_callSpecial?_slot (name := Str.ofString "__getitem__") ht.typeIs PyProof.Rows.slot_tuple_getitem
    (wpAny_call_entry PyProof.Rows.slot_tuple_getitem ht.typeIs entry_tuple_getitem ?_ (args_tuple_getitem _ _)))
  show wpAny _ _ (Builtin.Tuple.tupleItemsOf (.ref t) >>= _) _ _ s
  refine wpAny_bind (tupleItemsOf_ ht ?_)
  refine wpAny_bind (wpAny_typeOf hTs ?_)
  rw [if_pos (by decide)]
  refine wpAny_bind (sliceApplied_rev hs pl pu ps ?_)
  have hno : ¬ ((((items.size : Int) - 1) == 0 && (-1 : Int) == 1 && items.size == items.size) = true) := by
    intro q
    rw [Bool.and_eq_true, Bool.and_eq_true] at q
    exact absurd q.1.2 (by decide)
  show wpAny _ _ (if (((items.size : Int) - 1) == 0 && (-1 : Int) == 1 && items.size == items.size) = true then _ else _) _ _ s
  rw [if_neg hno, pick_rev]
  first
    | exact wpAny_bind (m := Builtin.Tuple.tupleExact _) (wpAny_newObj_type (wpAny_pure ⟨_, rfl, wpAny_pure h⟩) htake)
    | exact wpAny_bind (m := Builtin.Tuple.tupleExact _) (wpAny_newObj_type (wpAny_bind (wpAny_pure (wpAny_pure ⟨_, rfl, wpAny_pure h⟩))) htake)
    | exact wpAny_bind (wpAny_bind (m := Builtin.Tuple.tupleExact _) (wpAny_newObj_type (wpAny_pure (wpAny_pure ⟨_, rfl, wpAny_pure h⟩)) htake))
    | exact wpAny_bind (wpAny_bind (m := Builtin.Tuple.tupleExact _) (wpAny_newObj_type (wpAny_pure ⟨_, rfl, wpAny_pure h⟩) htake))
end
def tRevA (K : PySem.W.Frag) (te : TE) : TE := fun σ H Q => te σ H fun x H1 => ∃ a xs, x = .ref a ∧ ((SqL K H1 a xs ∧ ∀ p, H1 p = none → Q (.ref p) (upd H1 p (.lst xs.reverse))) ∨ (SqT K H1 a xs ∧ ∀ p, H1 p = none → Q (.ref p) (upd H1 p (.tup xs.reverse))))
theorem pe_revS {X : Cx} {e : Expr} {te : TE} {k : Nat} {p1 p2 p3 pos : Pos} (he : PE X e te) : PE X (.Subscript e (.Slice none none (some (.UnaryOp .USub (.Constant (.int 1) k p1) p2)) p3) pos) (tRevA X.K te) := by
  refine ⟨fun pins s σ H Q I h => ?_⟩
  refine Subscript_ (thn (he.run pins s σ H _ I h) fun v s1 ⟨x, H1, I1, r1, q1⟩ => ?_)
  obtain ⟨a, xs, ex, q⟩ := q1
  subst ex
  cases r1
  have hst : PO X (some (.UnaryOp .USub (.Constant (.int 1) k p1) p2)) (tPart (tUn (rU fun i => .int (-i)) (tC (.int 1)))) := po_some (pe_un un_neg pe_int)
  refine wpAny_Slice (thn (po_none.run pins s1 σ H1 (fun o H2 => o = none ∧ H2 = H1) I1 ⟨rfl, rfl⟩) fun vl s2 ⟨l, H2, I2, pl, el, e2⟩ => ?_)
  subst el e2
  refine thn (po_none.run pins s2 σ H2 (fun o H3 => o = none ∧ H3 = H2) I2 ⟨rfl, rfl⟩) fun vu s3 ⟨u, H3, I3, pu, eu, e3⟩ => ?_
  subst eu e3
  refine thn (hst.run pins s3 σ H3 (fun o H4 => o = some (-1) ∧ H4 = H3) I3 ⟨1, rfl, -1, rfl, rfl, rfl⟩) fun vs s4 ⟨o, H4, I4, ps, eo, e4⟩ => ?_
  subst eo e4
  have I5 : Inv X pins σ H4 { s4 with heap := s4.heap.push { cls := .type "slice", data := .fields #[vl, vu, vs] } } := I4.kept (t' := s4.toks) fun b ob q => Heap.get?_push_of_some _ q
  rcases q with ⟨hx, q⟩ | ⟨hx, q⟩
  · obtain ⟨its, r, ht, hz⟩ := I5.list hx
    have hlen := r.length
    show wpAny (model X.prog X.w) X.A (subscriptTail e (.Slice none none (some (.UnaryOp .USub (.Constant (.int 1) k p1) p2)) p3) (.ref a) (.ref s4.heap.objs.size)) (EP X pins σ Q) X.xe { s4 with heap := s4.heap.push { cls := .type "slice", data := .fields #[vl, vu, vs] } }
    refine tail_any (ops := [.ref a, .ref s4.heap.objs.size]) ht.isList.typeIs (PySem.slot_list_getitem.lookup) ?_ (by with_unfolding_all rfl)
    refine wpAny_getItem_list_slice ht.isList (Heap.IsSliceOf.new _ vl vu vs) pl pu ps (by decide) ?_ (by rw [List.size_toArray]; omega)
    rw [PySem.W.krv_pick]
    refine ⟨.ref _, _, I5.laid (t' := s4.toks) (o := .lst xs.reverse) (fun b ob q => Heap.get?_push_of_some _ q) (Nat.le_refl _) ?_, rfl, q _ (I5.hok.fresh (Nat.le_refl _))⟩
    exact ⟨by rw [List.length_reverse]; exact hz, _, 0, r.reverse, Heap.get?_push_size _ rfl⟩
  · obtain ⟨its, r, ht, hz⟩ := I5.tuple hx
    have hlen := r.length
    show wpAny (model X.prog X.w) X.A (subscriptTail e (.Slice none none (some (.UnaryOp .USub (.Constant (.int 1) k p1) p2)) p3) (.ref a) (.ref s4.heap.objs.size)) (EP X pins σ Q) X.xe { s4 with heap := s4.heap.push { cls := .type "slice", data := .fields #[vl, vu, vs] } }
    refine tail_any (ops := [.ref a, .ref s4.heap.objs.size]) ht.typeIs (PyProof.Rows.slot_tuple_getitem.lookup) ?_ (by with_unfolding_all rfl)
    refine getItem_tuple_rev ht (Heap.IsSliceOf.new _ vl vu vs) pl pu ps ?_ (by rw [List.size_toArray]; omega)
    refine ⟨.ref _, _, I5.laid (t' := s4.toks) (o := .tup xs.reverse) (fun b ob q => Heap.get?_push_of_some _ q) (Nat.le_refl _) ?_, rfl, q _ (I5.hok.fresh (Nat.le_refl _))⟩
    exact ⟨by rw [List.length_reverse]; exact hz, _, r.reverse, IsTup.new _ _⟩
end QB
/-! ### list(range(..)), x[::-1] -/
namespace QB
open PySem L2
section
variable {X : Cx} {W : WX} {a b : Expr} {ma mb : Env → R PyData} {pos : Pos}
theorem rgV_dd {Hs : Hp} {i j : Int} : DdAll Hs (rgV i j) ((List.range (j - i).toNat).map fun k => .int (i + (k : Nat))) := by
  unfold rgV
  generalize (List.range (j - i).toNat) = l
  induction l with
  | nil => exact .nil
  | cons k l ih => exact .cons (.int _) ih
theorem rng_lay {σ : St} {Hs H : Hp} {i j : Int} {Q : VK} {E : Str → Hp → Prop} (sub : Same Hs H) (h : PostG E Hs H ((rngI i j).bind fun ds => .ok (.list ds)) okD Q) : RgOk i j ∧ ∀ q, H q = none → Q (.ref q) (upd H q (.lst (rgV i j))) := by
  unfold rngI at h
  cases hc : decide (-1000000000 ≤ i ∧ j - i ≤ 1000000 ∧ i ≤ 1000000000 ∧ -1000000000 ≤ j) with
  | false => rw [hc] at h; exact h.elim
  | true =>
    rw [hc] at h
    have hc := of_decide_eq_true hc
    refine ⟨⟨by omega, by omega, by omega, by omega, by omega⟩, fun q hq => ?_⟩
    exact h (.ref q) (upd Hs q (.lst (rgV i j))) _ (Ext.laid sub hq) (.lst (.inl upd_same) rgV_dd)
theorem de_lstRng1 {p p2 q : Pos} (hc : X.calm = true) (b1 : BltT X "list" "list") (b2 : BltT X "range" "range") (hs : noStar a = true) (ha : DE X W a ma) : DE X W (.Call (.Name "list" p) [.Call (.Name "range" p2) [a] [] q] [] pos) (fun ρ => ((ma ρ).bind fun d => match d with
    | .int j => rngI 0 j
    | _ => .stuck).bind fun ds => .ok (.list ds)) := by
  obtain ⟨ta, pa, qa⟩ := ha
  refine ⟨_, pe_listRg hc b1.1 b1.2.1 (prg_1 b2.1 b2.2.1 pa (star_cons hs)) rfl, fun ρ σ Hs H Q r h => ?_⟩
  have h : PostG (Exc X W σ) Hs H ((ma ρ).bind fun d => (match d with | .int j => rngI 0 j | _ => .stuck).bind fun ds => .ok (.list ds)) okD Q := by
    dsimp only at h
    cases hm : ma ρ <;> rw [hm] at h <;> exact h
  refine qa ρ σ Hs H _ r (h.seq fun d v Hs1 H1 _ e1 o1 h1 => ?_)
  cases d with
  | int j => cases o1; exact ⟨j, rfl, rng_lay (σ := σ) e1.sub h1⟩
  | _ => exact h1.elim
theorem de_lstRng2 {p p2 q : Pos} (hc : X.calm = true) (b1 : BltT X "list" "list") (b2 : BltT X "range" "range") (hs : noStar a = true) (hs2 : noStar b = true) (ha : DE X W a ma) (hb : DE X W b mb) : DE X W (.Call (.Name "list" p) [.Call (.Name "range" p2) [a, b] [] q] [] pos) (fun ρ => ((ma ρ).bind fun d => (mb ρ).bind fun e => match d, e with
    | .int i, .int j => rngI i j
    | _, _ => .stuck).bind fun ds => .ok (.list ds)) := by
  obtain ⟨ta, pa, qa⟩ := ha
  obtain ⟨tb, pb, qb⟩ := hb
  refine ⟨_, pe_listRg hc b1.1 b1.2.1 (prg_2 b2.1 b2.2.1 pa pb (star_cons hs) (star_cons hs2) (noplain (by simp [hs2]))) rfl, fun ρ σ Hs H Q r h => ?_⟩
  have h : PostG (Exc X W σ) Hs H ((ma ρ).bind fun d => (mb ρ).bind fun e => (match d, e with | .int i, .int j => rngI i j | _, _ => .stuck).bind fun ds => .ok (.list ds)) okD Q := by
    dsimp only at h
    cases hm : ma ρ with
    | ok d => cases hn : mb ρ <;> rw [hm, R.bind_ok, hn] at h <;> exact h
    | exc c => rw [hm] at h; exact h
    | stuck => rw [hm] at h; exact h
  refine qa ρ σ Hs H _ r (h.seq fun d v Hs1 H1 _ e1 o1 h1 => ?_)
  refine qb ρ σ Hs1 H1 _ (r.ext e1) (h1.seq fun e u Hs2 H2 _ e2 o2 h2 => ?_)
  cases d with
  | int i =>
    cases e with
    | int j => cases o1; cases o2; exact ⟨i, j, rfl, rfl, rng_lay (σ := σ) e2.sub h2⟩
    | _ => exact h2.elim
  | _ => cases e <;> exact h2.elim
theorem de_rev {k : Nat} {p1 p2 p3 : Pos} (ha : DE X W a ma) : DE X W (.Subscript a (.Slice none none (some (.UnaryOp .USub (.Constant (.int 1) k p1) p2)) p3) pos) (fun ρ => (ma ρ).bind fun d => un1 .rev d) := by
  obtain ⟨ta, pa, qa⟩ := ha
  refine ⟨_, pe_revS pa, fun ρ σ Hs H Q r h => ?_⟩
  refine qa ρ σ Hs H _ r (h.seq fun d v Hs1 H1 _ e1 o1 h1 => ?_)
  cases d with
  | list ds =>
    cases o1 with
    | @lst l xs _ h2 h3 =>
      exact ⟨l, xs, rfl, .inl ⟨.inl (rdS e1.sub h2), fun q hq => h1 (.ref q) (upd Hs1 q (.lst xs.reverse)) _ (Ext.laid e1.sub hq) (.lst (.inl upd_same) (dpaMono (same_new (e1.sub.free hq)) _ (dpaRev h3)))⟩⟩
  | tuple ds =>
    cases o1 with
    | @tup l xs _ h2 h3 =>
      exact ⟨l, xs, rfl, .inr ⟨.inl (rdS e1.sub h2), fun q hq => h1 (.ref q) (upd Hs1 q (.tup xs.reverse)) _ (Ext.laid e1.sub hq) (.tup (.inl upd_same) (dpaMono (same_new (e1.sub.free hq)) _ (dpaRev h3)))⟩⟩
  | _ => exact h1.elim
end
end QB
/-! ### sets: bags of keys -/
namespace QB
open PySem PySem.Spec PyProof.Rows L2
/-- a set object that has just been made -/
abbrev frO (w : World) : Obj := { cls := .type "set", dict := none, data := .set #[] 0 (.fresh 0 0 (!w.params.followText "set-order")) }
theorem perm_unmap {α β : Type} (f : α → β) {l1 l2 : List β} (p : l1.Perm l2) : ∀ L : List α, l2 = L.map f → ∃ L1 : List α, l1 = L1.map f ∧ L1.Perm L := by
  induction p with
  | nil => intro L e; exact ⟨L, e, List.Perm.refl _⟩
  | @cons x a b _ ih =>
    intro L e
    cases L with
    | nil => cases e
    | cons y L =>
      rw [List.map_cons] at e
      injection e with e1 e2
      obtain ⟨L1, q1, q2⟩ := ih L e2
      exact ⟨y :: L1, by rw [List.map_cons, q1, e1], q2.cons y⟩
  | swap x y l =>
    intro L e
    match L, e with
    | a :: b :: L, e =>
      rw [List.map_cons, List.map_cons] at e
      injection e with e1 e2
      injection e2 with e2 e3
      exact ⟨b :: a :: L, by rw [List.map_cons, List.map_cons, e1, e2, e3], List.Perm.swap ..⟩
  | trans _ _ ih1 ih2 =>
    intro L e
    obtain ⟨L1, q1, q2⟩ := ih2 L e
    obtain ⟨L2, q3, q4⟩ := ih1 L1 q1
    exact ⟨L2, q3, q4.trans q2⟩
/-- what the table of a set must be so that it can be walked -/
structure Bx (w : World) (es : Array (Int × Value)) (t : SetTable) : Prop where
  fits : t.fits es.size = true
  few : es.size < scanBound
  ris : Ris t.place.toList
  led : w.params.followText "set-order" = true ∨ t.led = true
/-- a kind of sets: what its members are, when a set holds exactly these, and that one can be added -/
structure Bag (P : Program) (w : World) {κ : Type} (isM : Heap → Value → κ → Prop) (Z : Heap → Addr → List (Value × κ) → Prop) (bd : Nat) : Prop where
  op : ∀ {h : Heap} {a : Addr} {L : List (Value × κ)}, Z h a L → ∃ o es ep t, h.get? a = some o ∧ o.ExactSet ∧ o.data = .set es ep t ∧ Bx w es t ∧ es.toList.map (·.2) = L.map (·.1)
  nd : ∀ {h : Heap} {a : Addr} {L : List (Value × κ)}, Z h a L → (L.map (·.2)).Nodup
  new : ∀ {h : Heap} {a : Addr}, h.get? a = some (frO w) → Z h a []
  keep : ∀ {h h' : Heap} {a : Addr} {L : List (Value × κ)}, Z h a L → (∀ o, h.get? a = some o → h'.get? a = some o) → (∀ p ∈ L, isM h' p.1 p.2) → Z h' a L
  add : ∀ {A : Around} {E : Value → Shared → Prop} {s : Shared} {a : Addr} {L : List (Value × κ)} {v : Value} {k : κ} {Q : Bool → Shared → Prop}, A.units < cLine → Z s.heap a L → isM s.heap v k → L.length < bd →
    (∀ b h' tk L', s.toks ≤ tk → Heap.SameBut a s.heap h' → Z h' a L' → (k ∈ L.map (·.2) → L' = L) → (k ∉ L.map (·.2) → L'.Perm ((v, k) :: L)) → Q b { s with heap := h', toks := tk }) → wpAny (model P w) A (setAdd a v) Q E s
/-- L has got what the first i of ks gave -/
structure GotK {κ : Type} (ks : List κ) (i : Nat) (L : List κ) : Prop where
  sub : ∀ k ∈ L, k ∈ ks.take i
  all : ∀ k ∈ ks.take i, k ∈ L
  len : L.length ≤ i
theorem GotK.step {κ : Type} {ks : List κ} {i : Nat} {L L' : List κ} {k : κ} (g : GotK ks i L) (h : ks[i]? = some k) (c1 : k ∈ L → L' = L) (c2 : k ∉ L → L'.Perm (k :: L)) : GotK ks (i + 1) L' := by
  have et : ks.take (i + 1) = ks.take i ++ [k] := by rw [List.take_add_one, h]; rfl
  by_cases c : k ∈ L
  · rw [c1 c]
    refine ⟨fun x hx => ?_, fun x hx => ?_, Nat.le_succ_of_le g.len⟩
    · rw [et]; exact List.mem_append_left _ (g.sub x hx)
    · rw [et] at hx
      rcases List.mem_append.mp hx with z | z
      · exact g.all x z
      · rw [List.mem_singleton.mp z]; exact c
  · have pm := c2 c
    refine ⟨fun x hx => ?_, fun x hx => ?_, by rw [pm.length_eq, List.length_cons]; exact Nat.succ_le_succ g.len⟩
    · rw [et]
      rcases List.mem_cons.mp (pm.mem_iff.mp hx) with z | z
      · rw [z]; simp
      · exact List.mem_append_left _ (g.sub x z)
    · rw [et] at hx
      refine pm.mem_iff.mpr ?_
      rcases List.mem_append.mp hx with z | z
      · exact List.mem_cons_of_mem _ (g.all x z)
      · rw [List.mem_singleton.mp z]; exact List.mem_cons_self
section
variable {P : Program} {w : World} {A : Around} {E : Value → Shared → Prop} {s : Shared} {κ : Type} {isM : Heap → Value → κ → Prop} {Z : Heap → Addr → List (Value × κ) → Prop} {bd : Nat}
/-- all that stood in the ground stands -/
abbrev Kept (h0 h : Heap) : Prop := ∀ b o, h0.get? b = some o → h.get? b = some o
theorem bag_loop (B : Bag P w isM Z bd) {I S : Addr} {fp wr : List Addr} {G : Array GenState → Array GenState → Prop} {n : Nat} {Pv : Nat → Value → Prop} {St : Nat → Shared → Prop} {R : Result → Shared → Prop}
    (Wk : WalksS P w A.in1 I fp wr G n Pv St) (hSf : S ∉ fp) {ks : List κ} (hn : n = ks.length) (hb : ks.length ≤ bd) {h0 : Heap} (hS0 : h0.get? S = none) (hw0 : ∀ b ∈ wr, h0.get? b = none) (hu : A.in1.units < cLine)
    (hv : ∀ i v, Pv i v → ∃ k, ks[i]? = some k ∧ ∀ h', Kept h0 h' → isM h' v k) :
    ∀ (m i : Nat) (s : Shared) (L : List (Value × κ)), n - i = m → i ≤ n → St i s → Kept h0 s.heap → Z s.heap S L → (∀ p ∈ L, ∀ h', Kept h0 h' → isM h' p.1 p.2) → GotK ks i (L.map (·.2)) →
      (∀ s' L', Moved (S :: wr) G s s' → Kept h0 s'.heap → Z s'.heap S L' → GotK ks n (L'.map (·.2)) → (∀ p ∈ L', ∀ h', Kept h0 h' → isM h' p.1 p.2) → R (.ok (.ret .none)) s') →
      codeAny (model P w) A (.builtin "set.update.loop" ⟨[.ref S, .ref I], []⟩) R s := by
  have hSw : S ∉ wr := fun q => hSf (Wk.sub _ q)
  have wider : ∀ b ∈ wr, b ∈ S :: wr := fun b q => List.mem_cons_of_mem _ q
  have past : ∀ {s s' : Shared}, Moved wr G s s' → Kept h0 s.heap → Kept h0 s'.heap := fun mv kp b o e => mv.heap b o (fun q => by rw [hw0 b q] at e; cases e) (kp b o e)
  intro m
  induction m with
  | zero =>
    intro i s L hm hi st kp hz good got done
    have hin : i = n := by omega
    subst hin
    refine codeAny_builtin F.entry_set_update_loop (?_ : wpAny _ _ _ _ _ _)
    rw [Around.under_plainId F.plain_set_update_loop]
    refine wpAny_bind (Wk.done s _ _ st fun s' mv => wpAny_pure ?_)
    have kp' := past mv kp
    exact done s' L (mv.mono wider) kp' (B.keep hz (fun o e => mv.heap S o hSw e) fun p hp => good p hp _ kp') got good
  | succ m ih =>
    intro i s L hm hi st kp hz good got done
    have hlt : i < n := by omega
    refine codeAny_builtin F.entry_set_update_loop (?_ : wpAny _ _ _ _ _ _)
    rw [Around.under_plainId F.plain_set_update_loop]
    refine wpAny_bind (Wk.item i s _ _ hlt st fun v s' hP st' mv => ?_)
    obtain ⟨k, hk, hv'⟩ := hv i v hP
    have kp' := past mv kp
    have hz' := B.keep hz (fun o e => mv.heap S o hSw e) fun p hp => good p hp _ kp'
    refine wpAny_bind (wpAny_holding (B.add hu hz' (hv' _ kp') ?_ fun b h' tk L' ht sb hz2 c1 c2 => ?_))
    · have := got.len
      rw [List.length_map] at this
      omega
    · have kp2 : Kept h0 h' := fun b o e => (sb.2 b fun q => by rw [q, hS0] at e; cases e).trans (kp' b o e)
      have got2 : GotK ks (i + 1) (L'.map (·.2)) := got.step hk (fun q => by rw [c1 q]) fun q => (c2 q).map (·.2)
      have good2 : ∀ p ∈ L', ∀ h', Kept h0 h' → isM h' p.1 p.2 := fun p hp => by
        by_cases c : k ∈ L.map (·.2)
        · rw [c1 c] at hp; exact good p hp
        · rcases List.mem_cons.mp ((c2 c).mem_iff.mp hp) with q | q
          · rw [q]; exact hv'
          · exact good p q
      refine wpAny_pure ⟨plainId_quiet F.plain_set_update_loop _, ih (i + 1) { s' with heap := h', toks := tk } L' (by omega) hlt (Wk.frame _ s' _ _ st' ht fun b q o e => ?_) kp2 hz2 good2 got2 fun s2 L2 mv2 => ?_⟩
      · rw [sb.2 b fun z => hSf (z ▸ q)]; exact e
      · refine done s2 L2 (Moved.trans Wk.gtrans ((mv.mono wider).then_heap ht fun b o q e => ?_) mv2)
        rw [sb.2 b fun z => q (z ▸ List.mem_cons_self)]; exact e
end
end QB
/-! ### set(x) -/
namespace QB
open PySem PySem.Spec PyProof.Rows L2
section
variable {P : Program} {w : World} {A : Around} {E : Value → Shared → Prop} {s : Shared} {κ : Type} {isM : Heap → Value → κ → Prop} {Z : Heap → Addr → List (Value × κ) → Prop} {bd : Nat}
/-- behind set(x): the new set has got all of ks -/
def Done (Z : Heap → Addr → List (Value × κ) → Prop) (isM : Heap → Value → κ → Prop) (ks : List κ) (s : Shared) (Q : Value → Shared → Prop) : Prop :=
  ∀ (h' : Heap) (tk : Nat) (L : List (Value × κ)), Z h' s.heap.objs.size L → GotK ks ks.length (L.map (·.2)) → (∀ p ∈ L, ∀ h2, Kept s.heap h2 → isM h2 p.1 p.2) → Kept s.heap h' → Q (.ref s.heap.objs.size) { s with heap := h', toks := tk }
theorem none_above {h : Heap} {b : Addr} (hb : h.objs.size ≤ b) : h.get? b = none := by
  cases q : h.get? b with
  | none => rfl
  | some o => exact absurd (Nat.lt_of_lt_of_le (Heap.lt_size q) hb) (Nat.lt_irrefl _)
/-- set.__init__ of a new set, whatever walks the argument -/
theorem init_walk (B : Bag P w isM Z bd) {ks : List κ} (hb : ks.length ≤ bd) {A1 : Around} (hu : A1.in1.units < cLine) {I : Addr} {fp wr : List Addr} {n : Nat} {Pv : Nat → Value → Prop} {St : Nat → Heap → Prop} {s1 : Shared} {R : Result → Shared → Prop}
    (Wk : Walks P w A1.in1 I fp wr n Pv St) (hn : n = ks.length) (hS : s1.heap.get? s.heap.objs.size = some (frO w)) (kp : Kept s.heap s1.heap) (hSf : s.heap.objs.size ∉ fp) (hw : ∀ b ∈ wr, s.heap.objs.size ≤ b) (st : St 0 s1.heap)
    (e1 : s1.gens = s.gens) (e2 : s1.drawn = s.drawn) (e3 : s1.os = s.os)
    (hv : ∀ i v, Pv i v → ∃ k, ks[i]? = some k ∧ ∀ h', Kept s.heap h' → isM h' v k)
    (hR : ∀ (h' : Heap) (tk : Nat) (L : List (Value × κ)), Z h' s.heap.objs.size L → GotK ks ks.length (L.map (·.2)) → (∀ p ∈ L, ∀ h2, Kept s.heap h2 → isM h2 p.1 p.2) → Kept s.heap h' → R (.ok (.ret .none)) { s with heap := h', toks := tk }) :
    codeAny (model P w) A1 (.builtin "set.update.loop" ⟨[.ref s.heap.objs.size, .ref I], []⟩) R s1 := by
  refine bag_loop B Wk.toS hSf hn hb (none_above (Nat.le_refl _)) (fun b q => none_above (hw b q)) hu hv (n - 0) 0 s1 [] rfl (Nat.zero_le _) st kp (B.new hS) (fun p q => nomatch q) (GotK.mk (fun k q => nomatch q) (fun k q => by simp at q) (Nat.zero_le _)) fun s' L mv kp' hz got good => ?_
  obtain ⟨h', g2, d', tk', os'⟩ := s'
  have eg : g2 = s.gens := (mv.gens : g2 = s1.gens).trans e1
  have ed : d' = s.drawn := (mv.drawn : d' = s1.drawn).trans e2
  have eo : os' = s.os := (mv.os : os' = s1.os).trans e3
  subst eg ed eo
  rw [hn] at got
  exact hR h' tk' L hz got good kp'
theorem set_of_list (B : Bag P w isM Z bd) {l : Addr} {items : Array Value} {ks : List κ} {Q : Value → Shared → Prop} (hh : A.handled = none) (hu : A.units + 8 < cLine) (hl : s.heap.IsList l items) (hn : items.size = ks.length) (hv : ∀ (i : Nat) (v : Value), items[i]? = some v → ∃ k, ks[i]? = some k ∧ ∀ h', Kept s.heap h' → isM h' v k) (hb : ks.length ≤ bd)
    (fin : Done Z isM ks s Q) : wpAny (model P w) A (call (.type "set") [.ref l]) Q E s := by
  have ⟨c, tl, hmro⟩ := F.called_set.mro
  have m1 := F.called_set.made
  have m2 := F.called_set.sub
  refine wpAny_call (codeAny_of_tree (?_ : wpAny _ _ (callAny (.type "set") _) _ _ _))
  refine wpAny_pure (And.intro (Code.quiet_builtin _ (by decide +kernel)) (codeAny_builtin F.entry_type_call ?_))
  rw [Around.under_plain (weight_type_call_type "set" [.ref l] []) rfl]
  have m3 := F.called_set.notType
  have m4 := F.called_set.canCreate
  have m5 := F.typeCall_set_1 (.ref l)
  repeat (any_goals (first | assumption | wp_step))
  refine codeAny_mono (code_set_led1 (.ref l) (E := E) (Q₁ := fun ob sn => ob = .ref s.heap.objs.size ∧ sn = { s with heap := s.heap.push (frO w) }) ⟨rfl, rfl⟩) fun r sn hr => ?_
  match r, hr with
  | .error e, hr => exact hr
  | .ok .next, hr => exact hr.elim
  | .ok .brk, hr => exact hr.elim
  | .ok .cont, hr => exact hr.elim
  | .ok (.ret ob), hr =>
    obtain ⟨rfl, rfl⟩ := hr
    have hS : (s.heap.push (frO w)).get? s.heap.objs.size = some (frO w) := Heap.get?_push_size _ rfl
    have hT : Shared.TypeIs { s with heap := s.heap.push (frO w) } (.ref s.heap.objs.size) "set" := ⟨_, hS, rfl⟩
    have m6 := F.called_set.init.lookup
    have m7 := F.called_set.init.bind (.ref s.heap.objs.size)
    repeat (any_goals (first | assumption | wp_step))
    refine codeAny_mono (codeAny_call_builtin (R := wants (fun r s2 => r = .none ∧ ∃ h' tk L, s2 = { s with heap := h', toks := tk } ∧ Z h' s.heap.objs.size L ∧ GotK ks ks.length (L.map (·.2)) ∧ (∀ p ∈ L, ∀ h2, Kept s.heap h2 → isM h2 p.1 p.2) ∧ Kept s.heap h') E) F.called_set.init.plain F.entry_set_init (check_set_init_1 hT ?_)) fun r2 s2 hr2 => ?_
    · have ⟨⟨ocls, odict, odata, oslots⟩, hol, hcl, nl, hdl⟩ := hl
      simp only at hcl hdl
      subst hcl hdl
      have hol' : (s.heap.push (frO w)).get? l = some { cls := .type "list", dict := odict, data := .seq items nl, slots := oslots } := Heap.get?_push_of_some _ hol
      have n1 := F.sub_list_set
      have n2 := F.sub_list_frozenset
      have n3 : (Value.type "list" == Value.type "dict") = false := by decide
      have hl1 : (s.heap.push (frO w)).IsList l items := ⟨_, hol', rfl, nl, rfl⟩
      unfold Builtin.«set.__init__» noKeywords Builtin.Frozenset.updateFrom
      generalize hPI : pyIter = PI
      wp_walk
      subst hPI
      have hh3 : A.in1.in1.in1.handled = none := by simp [hh]
      have hz : (s.heap.push (frO w)).objs.size = s.heap.objs.size + 1 := Heap.size_push ..
      refine wpAny_pyIter_list hl1 (wpAny_bind (wpAny_runValue ?_))
      have hlS : l < s.heap.objs.size := Heap.lt_size hol
      refine init_walk (s := s) B hb (by simp only [Around.in1_units]; omega) (Walks.list hh3 _ l (by rw [hz]; exact Nat.ne_of_lt (Nat.lt_succ_of_lt hlS)) items) hn (Heap.get?_push_of_some _ hS) (fun b o e => Heap.get?_push_of_some _ (Heap.get?_push_of_some _ e)) ?_ (fun b q => ?_) ⟨⟨_, Heap.get?_push_size _ rfl, rfl, rfl⟩, hl1.push _⟩ rfl rfl rfl hv ?_
      · rw [hz]
        simp only [List.mem_cons, List.not_mem_nil, or_false, not_or]
        exact ⟨Nat.ne_of_lt (Nat.lt_succ_self _), Nat.ne_of_gt hlS⟩
      · rw [List.mem_singleton.mp q, hz]; omega
      · intro h' tk L q1 q2 q3 q4
        refine wpAny_pure (wpAny_pure ⟨rfl, h', tk, L, rfl, q1, q2, q3, q4⟩)
    · match r2, hr2 with
      | .error e, hr2 => exact hr2
      | .ok .next, hr2 => exact hr2.elim
      | .ok .brk, hr2 => exact hr2.elim
      | .ok .cont, hr2 => exact hr2.elim
      | .ok (.ret r), hr2 =>
        obtain ⟨rfl, h', tk, L, rfl, q1, q2, q3, q4⟩ := hr2
        repeat (any_goals (first | assumption | wp_step))
        exact fin h' tk L q1 q2 q3 q4
theorem set_of_text (B : Bag P w isM Z bd) {x : Str} {tx : Tok} {ks : List κ} {Q : Value → Shared → Prop} (hh : A.handled = none) (hu : A.units + 8 < cLine) (hn : x.cps.size = ks.length) (hv : ∀ i v, SignAt x i v → ∃ k, ks[i]? = some k ∧ ∀ h', Kept s.heap h' → isM h' v k) (hb : ks.length ≤ bd)
    (fin : Done Z isM ks s Q) : wpAny (model P w) A (call (.type "set") [.str x tx]) Q E s := by
  have ⟨c, tl, hmro⟩ := F.called_set.mro
  have m1 := F.called_set.made
  have m2 := F.called_set.sub
  refine wpAny_call (codeAny_of_tree (?_ : wpAny _ _ (callAny (.type "set") _) _ _ _))
  refine wpAny_pure (And.intro (Code.quiet_builtin _ (by decide +kernel)) (codeAny_builtin F.entry_type_call ?_))
  rw [Around.under_plain (weight_type_call_type "set" [.str x tx] []) rfl]
  have m3 := F.called_set.notType
  have m4 := F.called_set.canCreate
  have m5 := F.typeCall_set_1 (.str x tx)
  repeat (any_goals (first | assumption | wp_step))
  refine codeAny_mono (code_set_led1 (.str x tx) (E := E) (Q₁ := fun ob sn => ob = .ref s.heap.objs.size ∧ sn = { s with heap := s.heap.push (frO w) }) ⟨rfl, rfl⟩) fun r sn hr => ?_
  match r, hr with
  | .error e, hr => exact hr
  | .ok .next, hr => exact hr.elim
  | .ok .brk, hr => exact hr.elim
  | .ok .cont, hr => exact hr.elim
  | .ok (.ret ob), hr =>
    obtain ⟨rfl, rfl⟩ := hr
    have hS : (s.heap.push (frO w)).get? s.heap.objs.size = some (frO w) := Heap.get?_push_size _ rfl
    have hT : Shared.TypeIs { s with heap := s.heap.push (frO w) } (.ref s.heap.objs.size) "set" := ⟨_, hS, rfl⟩
    have m6 := F.called_set.init.lookup
    have m7 := F.called_set.init.bind (.ref s.heap.objs.size)
    repeat (any_goals (first | assumption | wp_step))
    refine codeAny_mono (codeAny_call_builtin (R := wants (fun r s2 => r = .none ∧ ∃ h' tk L, s2 = { s with heap := h', toks := tk } ∧ Z h' s.heap.objs.size L ∧ GotK ks ks.length (L.map (·.2)) ∧ (∀ p ∈ L, ∀ h2, Kept s.heap h2 → isM h2 p.1 p.2) ∧ Kept s.heap h') E) F.called_set.init.plain F.entry_set_init (check_set_init_1 hT ?_)) fun r2 s2 hr2 => ?_
    · have n1 := F.sub_str_set
      have n2 := F.sub_str_frozenset
      have n3 : (Value.type "str" == Value.type "dict") = false := by decide
      unfold Builtin.«set.__init__» noKeywords Builtin.Frozenset.updateFrom
      generalize hPI : pyIter = PI
      wp_walk
      subst hPI
      have hh3 : A.in1.in1.in1.handled = none := by simp [hh]
      have hz : (s.heap.push (frO w)).objs.size = s.heap.objs.size + 1 := Heap.size_push ..
      refine wpAny_pyIter_str fun o St Wk st => wpAny_bind (wpAny_runValue ?_)
      refine init_walk (s := s) B hb (by simp only [Around.in1_units]; omega) (Wk _ hh3) hn (Heap.get?_push_of_some _ hS) (fun b o e => Heap.get?_push_of_some _ (Heap.get?_push_of_some _ e)) ?_ (fun b q => ?_) st rfl rfl rfl hv ?_
      · rw [hz]; simp
      · rw [List.mem_singleton.mp q, hz]; omega
      · intro h' tk L q1 q2 q3 q4
        refine wpAny_pure (wpAny_pure ⟨rfl, h', tk, L, rfl, q1, q2, q3, q4⟩)
    · match r2, hr2 with
      | .error e, hr2 => exact hr2
      | .ok .next, hr2 => exact hr2.elim
      | .ok .brk, hr2 => exact hr2.elim
      | .ok .cont, hr2 => exact hr2.elim
      | .ok (.ret r), hr2 =>
        obtain ⟨rfl, h', tk, L, rfl, q1, q2, q3, q4⟩ := hr2
        repeat (any_goals (first | assumption | wp_step))
        exact fin h' tk L q1 q2 q3 q4
end
end QB
/-! ### sets of keys that are carried by value: ints, texts, truth values -/
namespace QB
open PySem PySem.Spec PyProof.Rows L2
section
variable {P : Program} {w : World} {κ : Type} [DecidableEq κ]
def isV (knd : PySem.KeyKind P w κ) : Heap → Value → κ → Prop := fun _ v k => knd.is k v = true ∧ v.scannable = true
def rowV (knd : PySem.KeyKind P w κ) (p : Value × κ) : Int × Value := (knd.hash p.2, p.1)
def ZV (knd : PySem.KeyKind P w κ) : Heap → Addr → List (Value × κ) → Prop := fun h a L =>
  ∃ o es ep t, h.get? a = some o ∧ o.ExactSet ∧ o.data = .set es ep t ∧ Bx w es t ∧ es.toList = L.map (rowV knd) ∧ (L.map (·.2)).Nodup ∧ ∀ p ∈ L, isV knd h p.1 p.2
variable {knd : PySem.KeyKind P w κ} {A : Around} {E : Value → Shared → Prop} {s : Shared} {a : Addr} {L : List (Value × κ)}
theorem rows_elems {es : Array (Int × Value)} (e : es.toList = L.map (rowV knd)) (g : ∀ p ∈ L, isV knd h p.1 p.2) : ElemsOf knd es.toList := fun x hx => by
  rw [e] at hx
  obtain ⟨p, hp, rfl⟩ := List.mem_map.mp hx
  exact ⟨⟨p.2, (g p hp).1, rfl⟩, (g p hp).2⟩
theorem rows_len {es : Array (Int × Value)} (e : es.toList = L.map (rowV knd)) : es.size = L.length := by
  have := congrArg List.length e
  rwa [Array.length_toList, List.length_map] at this
/-- what is stored, then the table laid anew where it is too full -/
theorem add_end {gv : Bool → Sem Unit} (hgv : ∀ (b : Bool) (s1 : Shared) (Q' : Unit → Shared → Prop), Q' () s1 → wpAny (model P w) A (gv b) Q' E s1)
    {o : Obj} {es : Array (Int × Value)} {ep : Nat} {t : SetTable} (ho : s.heap.get? a = some o) (hx : o.ExactSet) (hd : o.data = .set es ep t) {es1 : Array (Int × Value)} {t2 : SetTable} (b1 : Bx w es1 t2)
    (r1 : es1.toList = L.map (rowV knd)) (n1 : (L.map (·.2)).Nodup) (g1 : ∀ p ∈ L, isV knd s.heap p.1 p.2) {wd : Bool} {R : Option Bool → Shared → Prop}
    (hR : ∀ h' L', Heap.SameBut a s.heap h' → L'.Perm L → ZV knd h' a L' → R (some true) { s with heap := h' }) :
    wpAny (model P w) A (do
        storeSet a es1 t2
        if (!wd && t2.tooFull) = true then do
            gv (relayAll t2 es1 (SetTable.grown es1.size)).2.2
            storeSet a (relayAll t2 es1 (SetTable.grown es1.size)).1 (relayAll t2 es1 (SetTable.grown es1.size)).2.1
            pure (some true)
          else pure (some true)) R E s := by
  refine wpAny_bind (wpAny_storeSet_of ho hd ?_ (fits_of_scanBound b1.few))
  have o1 := store_at (es' := es1) (t' := t2) ho hd
  have u1 := Heap.SameBut.update s.heap a (Obj.putSet es1 t2)
  split
  · have pm := relayAll_perm t2 es1 (SetTable.grown es1.size)
    have f3 := relayAll_fits t2 es1 (SetTable.grown es1.size)
    have s3 := relayAll_ris t2 es1 (SetTable.grown es1.size)
    have l3 := relayAll_led t2 es1 (SetTable.grown es1.size)
    generalize relayAll t2 es1 (SetTable.grown es1.size) = Y at pm f3 s3 l3 ⊢
    obtain ⟨es2, t3, gave⟩ := Y
    dsimp only at pm f3 s3 l3 ⊢
    obtain ⟨L2, q1, q2⟩ := perm_unmap (rowV knd) pm L r1
    have z2 : es2.size = es1.size := by rw [← Array.length_toList, pm.length_eq, Array.length_toList]
    have b2 : Bx w es2 t3 := ⟨f3, by rw [z2]; exact b1.few, s3, b1.led.imp id fun z => by rw [l3]; exact z⟩
    refine wpAny_bind (hgv _ _ _ (wpAny_bind (wpAny_storeSet_of o1 rfl (wpAny_pure ?_) (fits_of_scanBound b2.few))))
    exact hR _ L2 (u1.trans (Heap.SameBut.update _ a _)) q2 ⟨_, es2, _, t3, store_at (es' := es2) (t' := t3) o1 rfl, hx, rfl, b2, q1, (q2.map (·.2)).nodup_iff.mpr n1, fun p hp => g1 p (q2.mem_iff.mp hp)⟩
  · exact wpAny_pure (hR _ L u1 (List.Perm.refl _) ⟨_, es1, _, t2, o1, hx, rfl, b1, r1, n1, g1⟩)
theorem addV {v : Value} {k : κ} {Q : Bool → Shared → Prop} (R : ZV knd s.heap a L) (hk : isV knd s.heap v k) (room : L.length + 1 < scanBound)
    (hQ : ∀ b h' L', Heap.SameBut a s.heap h' → ZV knd h' a L' → (k ∈ L.map (·.2) → L' = L) → (k ∉ L.map (·.2) → L'.Perm ((v, k) :: L)) → Q b { s with heap := h' }) :
    wpAny (model P w) A (setAddHashed a v (knd.hash k)) Q E s := by
  obtain ⟨o, es, ep, t, ho, hx, hd, bx, er, nd, g⟩ := R
  have hel : ElemsOf knd es.toList := rows_elems er g
  unfold setAddHashed setAddHashedIn
  refine wpAny_holding (wpAny_bind (wpAny_setState_of ho hd bx.fits ?_))
  dsimp only
  rw [byScan_of hk.2 bx.few hel]
  simp only [↓reduceIte]
  unfold setAddByScan
  refine wpAny_bind (wpAny_bind (wpAny_rule (wpAny_bind (wpAny_setScan_of hk.1 ho hd bx.fits hel ?_))))
  have isin : ∀ p ∈ L, knd.is k p.1 = true → k ∈ L.map (·.2) := fun p hp q => by
    rw [knd.inj p.1 k p.2 q (g p hp).1]
    exact List.mem_map.mpr ⟨p, hp, rfl⟩
  cases hf : List.findIdx? (fun e => knd.is k e.2) es.toList with
  | some j =>
    dsimp only
    obtain ⟨hj, pj, _⟩ := List.findIdx?_eq_some_iff_getElem.mp hf
    have hm : es.toList[j] ∈ L.map (rowV knd) := by rw [← er]; exact List.getElem_mem hj
    obtain ⟨p, hp, e⟩ := List.mem_map.mp hm
    have hin : k ∈ L.map (·.2) := isin p hp (by rw [← e] at pj; exact pj)
    exact wpAny_pure (wpAny_pure (hQ false s.heap L (Heap.SameBut.refl a s.heap) ⟨o, es, ep, t, ho, hx, hd, bx, er, nd, g⟩ (fun _ => rfl) fun z => absurd hin z))
  | none =>
    dsimp only
    have hno : k ∉ L.map (·.2) := fun z => by
      obtain ⟨p, hp, e⟩ := List.mem_map.mp z
      have c := List.findIdx?_eq_none_iff.mp hf (rowV knd p) (by rw [er]; exact List.mem_map.mpr ⟨p, hp, rfl⟩)
      have c2 := (g p hp).1
      rw [e] at c2
      rw [show (rowV knd p).2 = p.1 from rfl, c2] at c
      cases c
    have pm := layNew_perm t es (knd.hash k) v
    have f1 := layNew_fits t es (knd.hash k) v
    have s1 := layNew_ris t es (knd.hash k) v bx.ris
    have l1 := layNew_led t es (knd.hash k) v
    generalize layNew t es (knd.hash k) v = Y at pm f1 s1 l1 ⊢
    obtain ⟨es1, t1, wd, gave⟩ := Y
    dsimp only at pm f1 s1 l1 ⊢
    rw [Array.toList_push] at pm
    have pc : es1.toList.Perm (((v, k) :: L).map (rowV knd)) := pm.trans (by rw [er]; exact List.perm_append_singleton _ _)
    obtain ⟨L1, q1, q2⟩ := perm_unmap (rowV knd) pc ((v, k) :: L) rfl
    have z1 : es1.size = L.length + 1 := by rw [rows_len q1, q2.length_eq]; rfl
    have n1 : (L1.map (·.2)).Nodup := (q2.map (·.2)).nodup_iff.mpr (List.nodup_cons.mpr ⟨hno, nd⟩)
    have g1 : ∀ p ∈ L1, isV knd s.heap p.1 p.2 := fun p hp => by
      rcases List.mem_cons.mp (q2.mem_iff.mp hp) with z | z
      · rw [z]; exact hk
      · exact g p z
    have bx1 : ∀ t2 : SetTable, t2.fits es1.size = true → t2.place = t1.place → t2.led = t1.led → Bx w es1 t2 := fun t2 a1 a2 a3 => ⟨a1, by rw [z1]; exact room, by rw [a2]; exact s1, bx.led.imp id fun z => by rw [a3, l1]; exact z⟩
    have last : ∀ h' L', Heap.SameBut a s.heap h' → L'.Perm L1 → ZV knd h' a L' → Q true { s with heap := h' } := fun h' L' sb p z => hQ true h' L' sb z (fun q => absurd q hno) fun _ => p.trans q2
    have gw : ∀ (b : Bool) (s1 : Shared) (Q' : Unit → Shared → Prop), Q' () s1 → wpAny (model P w) A (match b with | true => rule "set.scan.the-table-gave-way" | false => pure ()) Q' E s1 := fun b s1 Q' q => by
      cases b <;> first | exact wpAny_pure q | exact wpAny_rule q
    refine wpAny_bind (gw _ _ _ ?_)
    split
    · refine wpAny_bind ?_
      rw [hashByValue_scannable 8 hk.2]
      refine wpAny_pure ?_
      refine add_end gw ho hx hd (bx1 _ ?_ ?_ ?_) q1 n1 g1 fun h' L' sb p z => ?_
      · first | (split <;> first | exact f1 | exact SetTable.fits_plain_off f1) | exact f1
      · first | (split <;> rfl) | rfl
      · first | (split <;> rfl) | rfl
      · dsimp only; exact wpAny_pure (last h' L' sb p z)
    · refine wpAny_bind (wpAny_pure ?_)
      simp only [↓reduceIte]
      refine add_end gw ho hx hd (bx1 _ f1 rfl rfl) q1 n1 g1 fun h' L' sb p z => ?_
      dsimp only; exact wpAny_pure (last h' L' sb p z)
theorem bagV (knd : PySem.KeyKind P w κ) : Bag P w (isV knd) (ZV knd) 4000 where
  op := fun ⟨o, es, ep, t, ho, hx, hd, bx, er, nd, g⟩ => ⟨o, es, ep, t, ho, hx, hd, bx, by rw [er, List.map_map]; rfl⟩
  nd := fun ⟨o, es, ep, t, ho, hx, hd, bx, er, nd, g⟩ => nd
  new := fun {h a} e => ⟨_, #[], 0, _, e, ⟨rfl, rfl, rfl⟩, rfl, ⟨rfl, by decide, List.Pairwise.nil, by
    show _ ∨ (!w.params.followText "set-order") = true
    cases w.params.followText "set-order" <;> simp⟩, rfl, List.nodup_nil, fun p q => nomatch q⟩
  keep := fun ⟨o, es, ep, t, ho, r⟩ k g => ⟨o, es, ep, t, k o ho, r.1, r.2.1, r.2.2.1, r.2.2.2.1, r.2.2.2.2.1, g⟩
  add := fun {A E s a L v k Q} hu z hk hl hQ => by
    unfold setAdd
    refine wpAny_holding (wpAny_bind (knd.pyHash hk.1 ?_))
    exact addV (s := { s with toks := s.toks + 1 }) z hk (by unfold scanBound; omega) fun b h' L' sb z2 c1 c2 => hQ b h' (s.toks + 1) L' (Nat.le_succ _) sb z2 c1 c2
end
end QB
/-! ### sets of a few tuples of ints and texts -/
namespace QB
open PySem PySem.Spec PyProof.Rows L2
section
variable {P : Program} {w : World} {A : Around} {E : Value → Shared → Prop} {s : Shared}
abbrev hT (P : Program) (w : World) (k : List Key) : Int := tupleKeyHash (mixKind P w) k
def isU (P : Program) (w : World) : Heap → Value → List Key → Prop := fun h v k => ∃ b, v = .ref b ∧ IsTupleKey (mixKind P w) h k b
def rowU (P : Program) (w : World) (p : Value × List Key) : Int × Value := (hT P w p.2, p.1)
structure ZU1 (P : Program) (w : World) (h : Heap) (a : Addr) (L : List (Value × List Key)) (es : Array (Int × Value)) (ep : Nat) (t : SetTable) : Prop where
  ob : ∃ o, h.get? a = some o ∧ o.ExactSet ∧ o.data = .set es ep t
  rows : es.toList = L.map (rowU P w)
  tab : TabOk t (L.map fun p => hT P w p.2)
  nd : (L.map (·.2)).Nodup
  good : ∀ p ∈ L, isU P w h p.1 p.2
  led : w.params.followText "set-order" = true ∨ t.led = true
  m7 : t.mask = 7
  few : L.length ≤ 4
def ZU (P : Program) (w : World) : Heap → Addr → List (Value × List Key) → Prop := fun h a L => ∃ es ep t, ZU1 P w h a L es ep t
variable {a : Addr} {L : List (Value × List Key)} {es : Array (Int × Value)} {ep : Nat} {t : SetTable}
theorem ZU1.size {h : Heap} (z : ZU1 P w h a L es ep t) : es.size = L.length := by
  have := congrArg List.length z.rows
  rwa [Array.length_toList, List.length_map] at this
theorem ZU1.fits {h : Heap} (z : ZU1 P w h a L es ep t) : t.fits es.size = true := by
  have h1 := z.tab.sz
  rw [List.length_map] at h1
  have h2 := z.size
  have h3 := z.few
  have h4 := z.m7
  unfold SetTable.fits SetTable.fill
  rw [z.tab.dm, Bool.and_eq_true, beq_iff_eq, decide_eq_true_eq]
  refine ⟨by omega, ?_⟩
  show t.place.size + 0 ≤ t.mask
  omega
theorem ZU1.at {h : Heap} (z : ZU1 P w h a L es ep t) {i : Nat} {p : Value × List Key} (e : L[i]? = some p) : es[i]? = some (hT P w p.2, p.1) := by
  rw [← Array.getElem?_toList, z.rows, List.getElem?_map, e]; rfl
/-! #### what is asked of a tuple -/
theorem keys_shape {k : List Key} {vs : List Value} (h : ItemsAre (mixKind P w) k vs) : ∀ v ∈ vs, (∃ i u, v = Value.int i u) ∨ ∃ x u, v = Value.str x u := by
  induction h with
  | nil => intro v q; cases q
  | cons h1 _ ih =>
    intro v q
    rcases List.mem_cons.mp q with e | q
    · subst e
      rcases keyIs_shape h1 with ⟨i, u, _, e⟩ | ⟨x, u, _, e⟩
      · exact .inl ⟨i, u, e⟩
      · exact .inr ⟨x, u, e⟩
    · exact ih v q
theorem noClass {n : Nat} {v : Value} (h : (∃ i u, v = Value.int i u) ∨ ∃ x u, v = Value.str x u) : ofAClassStatement n v = pure false := by
  rcases h with ⟨i, u, rfl⟩ | ⟨x, u, rfl⟩ <;> cases n <;> rfl
theorem class_tup {k : List Key} {b : Addr} {Q : Bool → Shared → Prop} (hk : IsTupleKey (mixKind P w) s.heap k b) (h : Q false s) : wpAny (model P w) A (ofAClassStatement 8 (.ref b)) Q E s := by
  have ty := hk.typeIs
  obtain ⟨o, items, n, ho, _, hd, hi⟩ := hk
  unfold ofAClassStatement
  refine wpAny_bind (wpAny_typeOf ty ?_)
  dsimp only
  simp only [show (("tuple" : String) == "tuple") = true by decide, if_true, Bool.not_true, Bool.false_eq_true, if_false]
  try refine wpAny_bind (wpAny_pure ?_)
  try simp only [Bool.not_true, Bool.false_eq_true, if_false]
  refine wpAny_bind (m := seqItems? (.ref b)) (wpAny_seqItems ho hd ?_)
  dsimp only
  refine wpAny_bind (?_ : wpAny _ _ (forIn items _ _) _ _ s)
  rw [← Array.forIn_toList]
  refine wpAny_forIn_list _ (fun rest r s' => r.1 = none ∧ s' = s ∧ ∀ v ∈ rest, (∃ i u, v = Value.int i u) ∨ ∃ x u, v = Value.str x u) _ ?_ ?_ _ _ ⟨rfl, rfl, keys_shape hi⟩
  · rintro v rest r s' ⟨hr, rfl, all⟩
    rw [noClass (all v List.mem_cons_self)]
    refine wpAny_bind (wpAny_pure ?_)
    simp only [Bool.false_eq_true, if_false]
    exact wpAny_pure ⟨rfl, rfl, fun u q => all u (List.mem_cons_of_mem _ q)⟩
  · rintro ⟨r1, r2⟩ s' ⟨hr, rfl, _⟩
    simp only at hr
    subst hr
    exact wpAny_pure h
theorem byVal_tup {k : List Key} {b : Addr} {Q : Bool → Shared → Prop} (hk : IsTupleKey (mixKind P w) s.heap k b) (h : ∀ c, Q c s) : wpAny (model P w) A (hashByValue 8 (.ref b)) Q E s := by
  have ty := hk.typeIs
  obtain ⟨o, items, n, ho, _, hd, hi⟩ := hk
  unfold hashByValue
  refine wpAny_bind (wpAny_specialOf ty F.slot_tuple_hash.lookup ?_)
  refine wpAny_bind (m := seqItems? (.ref b)) (wpAny_seqItems ho hd ?_)
  refine wpAny_bind (?_ : wpAny _ _ (forIn items _ _) _ _ s)
  rw [← Array.forIn_toList]
  refine wpAny_forIn_list _ (fun rest r s' => s' = s ∧ ∀ v ∈ rest, (∃ i u, v = Value.int i u) ∨ ∃ x u, v = Value.str x u) _ ?_ ?_ _ _ ⟨rfl, keys_shape hi⟩
  · rintro v rest r s' ⟨rfl, all⟩
    have more : ∀ u ∈ rest, (∃ i t, u = Value.int i t) ∨ ∃ x t, u = Value.str x t := fun u q => all u (List.mem_cons_of_mem _ q)
    rcases all v List.mem_cons_self with ⟨i, u, rfl⟩ | ⟨x, u, rfl⟩
    · rw [show hashByValue 7 (.int i u) = pure true from rfl]
      refine wpAny_bind (wpAny_pure ?_)
      simp only [Bool.not_true, Bool.false_eq_true, if_false]
      exact wpAny_pure ⟨rfl, more⟩
    · rw [show hashByValue 7 (.str x u) = pure false from rfl]
      refine wpAny_bind (wpAny_pure ?_)
      simp only [Bool.not_false, if_true]
      exact wpAny_pure (show wpAny _ _ (pure false) _ _ _ from wpAny_pure (h false))
  · rintro ⟨r1, r2⟩ s' ⟨rfl, _⟩
    cases r1 with
    | none => exact wpAny_pure (h _)
    | some c => exact wpAny_pure (h _)
theorem unseen {x : Value} {k : List Key} (hx : isU P w s.heap x k) {ys : List Value} (hy : ∀ y ∈ ys, ∃ k', isU P w s.heap y k') {Q : Bool → Shared → Prop} (h : Q false s) : wpAny (model P w) A (searchCouldBeSeen x ys) Q E s := by
  obtain ⟨b, rfl, hb⟩ := hx
  unfold searchCouldBeSeen
  refine wpAny_bind (wpAny_forIn_list _ (fun rest r s' => r.1 = none ∧ s' = s ∧ ∀ y ∈ rest, ∃ k', isU P w s.heap y k') _ ?_ ?_ _ _ ⟨rfl, rfl, hy⟩)
  · rintro v rest r s' ⟨hr, rfl, all⟩
    obtain ⟨k', c, rfl, hc⟩ := all v List.mem_cons_self
    have more : ∀ y ∈ rest, ∃ k', isU P w s'.heap y k' := fun u q => all u (List.mem_cons_of_mem _ q)
    dsimp only
    by_cases hv : (b == c || (carriedByValue (.ref b) && carriedByValue (.ref c))) = true
    · exact wp_if_pos hv (wpAny_pure ⟨rfl, rfl, more⟩)
    · refine wp_if_neg hv (wpAny_bind (wpAny_eqIsQuiet_tuple hb ?_))
      simp only [Bool.not_true, Bool.false_eq_true, if_false]
      refine wpAny_bind (wpAny_eqIsQuiet_tuple hc ?_)
      simp only [Bool.not_true, Bool.false_eq_true, if_false]
      refine wpAny_bind (class_tup hb ?_)
      simp only [Bool.false_eq_true, if_false]
      refine wpAny_bind (class_tup hc ?_)
      simp only [Bool.false_eq_true, if_false]
      exact wpAny_pure ⟨rfl, rfl, more⟩
  · rintro ⟨r1, r2⟩ s' ⟨hr, rfl, _⟩
    simp only at hr
    subst hr
    exact wpAny_pure h
end
end QB
/-! ### a tuple looked for in, and added to, a small set -/
namespace QB
open PySem PySem.Spec PyProof.Rows L2
section
variable {P : Program} {w : World} {A : Around} {E : Value → Shared → Prop} {s : Shared} {a : Addr} {L : List (Value × List Key)} {es : Array (Int × Value)} {ep : Nat} {t : SetTable}
/-- the n-th stand of the search for a hash -/
abbrev stand7 (t : SetTable) (h : Int) (n : Nat) : SetTable.Probe := nth t.mask (runAt t.mask (SetTable.bits h % (t.mask + 1)) (SetTable.bits h)) n
theorem stand_clean (t : SetTable) (h : Int) (n : Nat) : (stand7 t h n).dummy = none := by
  have all : ∀ (n : Nat) (p : SetTable.Probe), p.dummy = none → (nth t.mask p n).dummy = none := by
    intro n
    induction n with
    | zero => exact fun p q => q
    | succ n ih => exact fun p q => ih (adv t.mask p) (by unfold adv; split <;> exact q)
  exact all n _ rfl
theorem stand_on (t : SetTable) (h : Int) (c q : Nat) : nth t.mask (stand7 t h c) q = stand7 t h (c + q) := (nth_add t.mask c _ q).symm
theorem not_way (z : ZU1 P w s.heap a L es ep t) : ¬ t.gaveWay = true := by
  unfold SetTable.gaveWay
  rw [mask_odd z.tab.mok]
  decide
theorem look (z : ZU1 P w s.heap a L es ep t) {x : Value} {k : List Key} (hx : isU P w s.heap x k) (hu : A.units < cLine) {n : Nat} (hn : n < 10 * SetTable.turns t.mask)
    (free : way t.mask (hT P w k) n ∉ t.place.toList) (held : ∀ c, c < n → way t.mask (hT P w k) c ∈ t.place.toList) {Q : SetFound → Shared → Prop}
    (yes : k ∈ L.map (·.2) → Q (.there none) s) (no : k ∉ L.map (·.2) → Q (.free (way t.mask (hT P w k) n) false) s) :
    ∀ (f c : Nat) (st : Option SetTable.Probe), st.getD (t.probeStart (hT P w k)) = stand7 t (hT P w k) c → c ≤ n → n - c < f →
      (∀ (i : Nat) p, L[i]? = some p → p.2 = k → ∃ c', c ≤ c' ∧ c' < n ∧ t.place.toList[i]? = some (way t.mask (hT P w k) c')) → wpAny (model P w) A (setSearchFrom a x (hT P w k) true f st) Q E s
  | 0, _, _, _, _, hf, _ => absurd hf (Nat.not_lt_zero _)
  | f + 1, c, st, hst, hc, hf, ahead => by
    have ⟨o, ho, hex, hd⟩ := z.ob
    have hashes : ∀ (i : Nat) p, L[i]? = some p → (es[i]?.map (·.1)).getD 0 = hT P w p.2 := fun i p e => by rw [z.at e]; rfl
    have e1 : ∀ q, (nth t.mask (stand7 t (hT P w k) c) q).j = way t.mask (hT P w k) (c + q) := fun q => congrArg SetTable.Probe.j (stand_on t (hT P w k) c q)
    have spec := go_spec t z.tab.ris z.tab.dm (fun i => (es[i]?.map (·.1)).getD 0) (hT P w k) (10 * SetTable.turns t.mask) (n - c) _ (stand_clean t (hT P w k) c) (by omega)
      (fun q hq => by rw [e1]; exact held (c + q) (by omega)) (by rw [e1, show c + (n - c) = n by omega]; exact free)
    rw [setSearchFrom_succ]
    refine wpAny_bind (wpAny_setState_of ho hd z.fits ?_)
    dsimp only
    refine wp_if_neg (not_way z) ?_
    try refine wpAny_bind (wpAny_pure ?_)
    rcases spec with ⟨q, i, hq, hi, hh, none_before, met⟩ | ⟨none_at_all, met⟩
    · have met' : t.probe (fun i => (es[i]?.map (·.1)).getD 0) (hT P w k) (st.getD (t.probeStart (hT P w k))) = some (.candidate (way t.mask (hT P w k) (c + q)) i (stand7 t (hT P w k) (c + (q + 1)))) := by
        rw [hst, ← e1, ← stand_on]; exact met
      rw [met']
      dsimp only
      rw [e1] at hi
      have hil : i < L.length := by
        have h1 : i < t.place.toList.length := (List.getElem?_eq_some_iff.mp hi).1
        have h2 := z.tab.sz
        rw [List.length_map] at h2
        rw [Array.length_toList] at h1
        omega
      obtain ⟨p, hp⟩ : ∃ p, L[i]? = some p := ⟨_, List.getElem?_eq_getElem hil⟩
      have hm : p ∈ L := List.mem_of_getElem? hp
      have ⟨pb, pe, pt⟩ := z.good p hm
      have ⟨xb, xe, xt⟩ := hx
      have sl : t.slot (way t.mask (hT P w k) (c + q)) = .live i := slot_live z.tab.ris hi
      have rest : wpAny (model P w) A (searchRest a x (hT P w k) true f es t (way t.mask (hT P w k) (c + q)) i (stand7 t (hT P w k) (c + (q + 1)))) Q E s := by
        unfold searchRest
        rw [z.at hp]
        dsimp only
        rw [pe, xe]
        refine wpAny_bind (wpAny_holding (wpAny_eqBool_tuple hu pt xt (wpAny_bind (wpAny_setState_of ho hd z.fits ?_))))
        dsimp only
        by_cases same : p.2 = k
        · exact wp_if_pos (by simp [same]) (wpAny_pure (yes (List.mem_map.mpr ⟨p, hm, same⟩)))
        · refine wp_if_neg (by simp [same]) ?_
          try refine wpAny_bind (wpAny_pure ?_)
          rw [sameMem]
          dsimp only
          simp only [if_true, sl, z.at hp]
          rw [pe]
          refine wpAny_bind (wpAny_isSame_ref_self (wpAny_bind (wpAny_pure ?_)))
          simp only [if_true]
          refine wp_if_neg (by simp [same]) ?_
          rw [← xe]
          refine look z hx hu hn free held yes no f (c + (q + 1)) _ rfl (by omega) (by omega) fun i0 p0 h0 k0 => ?_
          obtain ⟨c', a1, a2, a3⟩ := ahead i0 p0 h0 k0
          refine ⟨c', ?_, a2, a3⟩
          rcases Nat.lt_trichotomy c' (c + q) with y | y | y
          · refine absurd ((hashes i0 p0 h0).trans (congrArg (hT P w) k0)) (none_before (c' - c) i0 (by omega) ?_)
            rw [e1, show c + (c' - c) = c' by omega]; exact a3
          · exfalso
            rw [y] at a3
            have s0 := slot_live z.tab.ris a3
            rw [sl] at s0
            injection s0 with s0
            rw [← s0, hp] at h0
            exact same ((congrArg Prod.snd (Option.some.inj h0)).trans k0)
          · omega
      by_cases hl : t.led = true
      · refine wp_if_neg (by simp [hl]) ?_
        try refine wpAny_bind (wpAny_pure ?_)
        exact rest
      · refine wp_if_pos (by simp [hl]) (wpAny_bind (unseen hx (fun y hy => ?_) (wp_if_neg (by decide) ?_)))
        · obtain ⟨e, he, ee⟩ := List.mem_map.mp hy
          have he2 : e ∈ es.toList := by
            have he1 : e ∈ es ∧ e.1 = hT P w k := by simpa using he
            simpa using he1.1
          rw [z.rows] at he2
          obtain ⟨p2, hp2, e2⟩ := List.mem_map.mp he2
          rw [← ee, ← e2]
          exact ⟨p2.2, z.good p2 hp2⟩
        · try refine wpAny_bind (wpAny_pure ?_)
          exact rest
    · have met' : t.probe (fun i => (es[i]?.map (·.1)).getD 0) (hT P w k) (st.getD (t.probeStart (hT P w k))) = some (.empty (way t.mask (hT P w k) n) none) := by
        have e2 : way t.mask (hT P w k) n = (nth t.mask (stand7 t (hT P w k) c) (n - c)).j := by rw [e1, show c + (n - c) = n by omega]
        rw [hst, e2]; exact met
      rw [met']
      dsimp only
      refine wpAny_pure (no fun hm => ?_)
      obtain ⟨p0, h0, k0⟩ := List.mem_map.mp hm
      obtain ⟨i0, hi0, e0⟩ := List.getElem_of_mem h0
      have h00 : L[i0]? = some p0 := by rw [List.getElem?_eq_getElem hi0, e0]
      obtain ⟨c', a1, a2, a3⟩ := ahead i0 p0 h00 k0
      refine none_at_all (c' - c) i0 (by omega) ?_ ((hashes i0 p0 h00).trans (congrArg (hT P w) k0))
      rw [e1, show c + (c' - c) = c' by omega]; exact a3
theorem look0 (z : ZU1 P w s.heap a L es ep t) {x : Value} {k : List Key} (hx : isU P w s.heap x k) (hu : A.units < cLine) {Q : SetFound → Shared → Prop} (yes : k ∈ L.map (·.2) → Q (.there none) s)
    (no : ∀ n, k ∉ L.map (·.2) → way t.mask (hT P w k) n ∉ t.place.toList → (∀ c, c < n → way t.mask (hT P w k) c ∈ t.place.toList) → Q (.free (way t.mask (hT P w k) n) false) s) :
    wpAny (model P w) A (setSearch a x (hT P w k) true) Q E s := by
  have hf := z.few
  have hm := z.m7
  obtain ⟨n, hn, free, held⟩ := z.tab.first (by rw [List.length_map]; omega) (hT P w k)
  have hbig : n < 100000 := by
    have : 10 * SetTable.turns t.mask ≤ 1420 := by unfold SetTable.turns; omega
    omega
  unfold setSearch
  refine look z hx hu hn free held yes (fun q => no n q free held) 100000 0 none rfl (Nat.zero_le _) (by omega) fun i p hp hk => ?_
  have h1 : (L.map fun p => hT P w p.2)[i]? = some (hT P w k) := by rw [List.getElem?_map, hp, ← hk]; rfl
  have h2 : i < t.place.toList.length := by
    have q1 : i < L.length := (List.getElem?_eq_some_iff.mp hp).1
    have q2 := z.tab.sz
    rw [List.length_map] at q2
    rw [Array.length_toList]; omega
  obtain ⟨c, hc, e⟩ := z.tab.before free h1 (List.getElem?_eq_getElem h2)
  exact ⟨c, Nat.zero_le _, hc, by rw [List.getElem?_eq_getElem h2, e]⟩
theorem isU_same {h h' : Heap} {v : Value} {k : List Key} {o : Obj} (x : isU P w h v k) (ho : h.get? a = some o) (hd : o.data = .set es ep t) (hs : Heap.SameBut a h h') : isU P w h' v k := by
  obtain ⟨b, rfl, o', items, n, ho', hc, hd', hi⟩ := x
  refine ⟨b, rfl, o', items, n, (hs.2 b ?_).trans ho', hc, hd', hi⟩
  rintro rfl
  rw [ho] at ho'
  cases ho'
  rw [hd] at hd'
  cases hd'
theorem addU {x : Value} {k : List Key} (z : ZU1 P w s.heap a L es ep t) (hx : isU P w s.heap x k) (hu : A.units < cLine) (room : L.length < 4) {Q : Bool → Shared → Prop}
    (hQ : ∀ b h' L', Heap.SameBut a s.heap h' → ZU P w h' a L' → (k ∈ L.map (·.2) → L' = L) → (k ∉ L.map (·.2) → L'.Perm ((x, k) :: L)) → Q b { s with heap := h' }) : wpAny (model P w) A (setAddHashed a x (hT P w k)) Q E s := by
  have ⟨o, ho, hex, hd⟩ := z.ob
  have ⟨xb, xe, xt⟩ := hx
  unfold setAddHashed
  rw [show (100000 : Nat) = 99999 + 1 from rfl, setAddHashedIn_succ]
  refine wpAny_holding (wpAny_bind (wpAny_setState_of ho hd z.fits ?_))
  dsimp only
  refine wp_if_neg (by rw [xe]; simp [byScan, Value.scannable]) ?_
  try refine wpAny_bind (wpAny_pure ?_)
  refine wpAny_bind (look0 z hx hu (fun hm => ?_) fun n hm free held => ?_)
  · dsimp only
    exact wpAny_pure (hQ false s.heap L (Heap.SameBut.refl a s.heap) ⟨es, ep, t, z⟩ (fun _ => rfl) fun q => absurd hm q)
  · dsimp only
    refine wpAny_bind (wpAny_setState_of ho hd z.fits ?_)
    dsimp only
    obtain ⟨q1, q2, q3, q4, q5, q6, q7, q8, q9⟩ := z.tab.put free held
    generalize hpt : t.put (way t.mask (hT P w k) n) = pt at q1 q3 q4 q5 q6 q7 q8 q9 ⊢
    obtain ⟨t1, p⟩ := pt
    dsimp only at q1 q3 q4 q5 q6 q7 q8 q9 ⊢
    subst q1
    generalize hpp : SetTable.below t.place (way t.mask (hT P w k) n) = p at q2 q3 ⊢
    -- whichever way the table's mark goes
    have fin : ∀ t2 : SetTable, t2.place = t1.place → t2.dummies = t1.dummies → t2.mask = t1.mask → t2.led = t1.led → t2.tooFull = t1.tooFull → ∀ rest : Unit → Sem Bool, (t2.tooFull = false → ∀ s', Q true s' → wpAny (model P w) A (rest ()) Q E s') →
        wpAny (model P w) A (storeSet a (SetTable.insertAt es p (hT P w k, x)) t2 >>= rest) Q E s := fun t2 r1 r2 r3 r4 r5 rest hrest => by
      have hin : (SetTable.insertAt es p (hT P w k, x)).toList = (L.take p ++ (x, k) :: L.drop p).map (rowU P w) := by
        rw [SetTable.toList_insertAt, z.rows, List.map_append, List.map_cons, List.map_take, List.map_drop]; rfl
      have pm : (L.take p ++ (x, k) :: L.drop p).Perm ((x, k) :: L) := by
        have h : (L.take p ++ (x, k) :: L.drop p).Perm ((x, k) :: (L.take p ++ L.drop p)) := List.perm_middle
        rwa [List.take_append_drop] at h
      have hhs : (L.take p ++ (x, k) :: L.drop p).map (fun p => hT P w p.2) = (L.map fun p => hT P w p.2).take p ++ hT P w k :: (L.map fun p => hT P w p.2).drop p := by rw [List.map_append, List.map_cons, List.map_take, List.map_drop]
      rw [← hhs] at q3
      generalize L.take p ++ (x, k) :: L.drop p = L1 at pm q3 hin
      have hlen : L1.length = L.length + 1 := pm.length_eq
      have hes : (SetTable.insertAt es p (hT P w k, x)).size = L.length + 1 := by
        have h := congrArg List.length hin
        rwa [Array.length_toList, List.length_map, hlen] at h
      generalize SetTable.insertAt es p (hT P w k, x) = es1 at hin hes ⊢
      refine wpAny_bind (wpAny_storeSet_of ho hd ?_ (by rw [hes, sizeLine_eq]; omega))
      have sb : Heap.SameBut a s.heap (s.heap.update a (Obj.putSet es1 t2)) := Heap.SameBut.update ..
      have o1 := store_at (es' := es1) (t' := t2) ho hd
      have nf : t1.tooFull = false := by
        unfold SetTable.tooFull
        rw [decide_eq_false_iff_not, q9, List.length_map, q4, z.m7]
        omega
      have tab2 : TabOk t2 (L1.map fun p => hT P w p.2) := ⟨by rw [r1]; exact q3.ris, by rw [r2]; exact q3.dm, by rw [r1]; exact q3.sz, by rw [r3]; exact q3.mok, by rw [r1, r3]; exact q3.bd, by rw [r1, r3]; exact q3.reach⟩
      have zz : ZU1 P w (s.heap.update a (Obj.putSet es1 t2)) a L1 es1 (ep + 1) t2 := ⟨⟨_, o1, hex, rfl⟩, hin, tab2, (pm.map (·.2)).nodup_iff.mpr (List.nodup_cons.mpr ⟨hm, z.nd⟩), fun p hp => by
          rcases List.mem_cons.mp (pm.mem_iff.mp hp) with e | hp
          · rw [e]; exact isU_same hx ho hd sb
          · exact isU_same (z.good p hp) ho hd sb, by rw [r4, q5]; exact z.led, by rw [r3, q4]; exact z.m7, by rw [hlen]; omega⟩
      have last := hQ true _ L1 sb ⟨_, _, _, zz⟩ (fun q => absurd q hm) fun _ => pm
      exact hrest (r5.trans nf) _ last
    by_cases hp : t1.plain = true
    · first
        | (refine wpAny_bind ?_; refine wp_if_pos hp ?_; rw [xe]; refine byVal_tup xt fun c => ?_)
        | (refine wp_if_pos hp (wpAny_bind ?_); rw [xe]; refine byVal_tup xt fun c => ?_)
      rw [← xe]
      cases c with
      | true =>
        simp only [if_true]
        refine fin _ rfl rfl rfl rfl rfl _ fun nf s' q => ?_
        simp only [nf, Bool.and_false, Bool.false_eq_true, if_false]
        first | exact wpAny_bind (wpAny_pure (wpAny_pure q)) | exact wpAny_pure q
      | false =>
        simp only [Bool.false_eq_true, if_false]
        refine fin { t1 with plain := false } rfl rfl rfl rfl rfl _ fun nf s' q => ?_
        simp only [nf, Bool.and_false, Bool.false_eq_true, if_false]
        first | exact wpAny_bind (wpAny_pure (wpAny_pure q)) | exact wpAny_pure q
    · first
        | (refine wpAny_bind ?_; refine wp_if_neg hp ?_; refine wpAny_pure ?_)
        | (refine wp_if_neg hp ?_; try refine wpAny_bind (wpAny_pure ?_))
      simp only [if_true]
      refine fin _ rfl rfl rfl rfl rfl _ fun nf s' q => ?_
      simp only [nf, Bool.and_false, Bool.false_eq_true, if_false]
      first | exact wpAny_bind (wpAny_pure (wpAny_pure q)) | exact wpAny_pure q
theorem bagU : Bag P w (isU P w) (ZU P w) 4 where
  op := fun ⟨es, ep, t, z⟩ => by
    have ⟨o, ho, hx, hd⟩ := z.ob
    exact ⟨o, es, ep, t, ho, hx, hd, ⟨z.fits, by rw [z.size]; exact Nat.lt_of_le_of_lt z.few (by decide), z.tab.ris, z.led⟩, by rw [z.rows, List.map_map]; rfl⟩
  nd := fun ⟨es, ep, t, z⟩ => z.nd
  new := fun {h a} e => ⟨#[], 0, _, ⟨⟨_, e, ⟨rfl, rfl, rfl⟩, rfl⟩, rfl, ⟨List.Pairwise.nil, rfl, rfl, .inl rfl, (fun x q => nomatch q), (fun i h j q => by simp at q)⟩, List.nodup_nil, (fun p q => nomatch q), by
    show _ ∨ (!w.params.followText "set-order") = true
    cases w.params.followText "set-order" <;> simp, rfl, Nat.zero_le _⟩⟩
  keep := fun ⟨es, ep, t, z⟩ k g => ⟨es, ep, t, ⟨let ⟨o, ho, r⟩ := z.ob; ⟨o, k o ho, r⟩, z.rows, z.tab, z.nd, g, z.led, z.m7, z.few⟩⟩
  add := fun {A E s a L v k Q} hu ⟨es, ep, t, z⟩ hk hl hQ => by
    have ⟨b, e, ht⟩ := hk
    unfold setAdd
    refine wpAny_holding (wpAny_bind ?_)
    rw [e]
    refine wpAny_pyHash_tuple hu ht ?_
    rw [← e]
    exact addU (s := { s with toks := s.toks + (k.length + 1) }) z hk hu hl fun b h' L' sb z2 c1 c2 => hQ b h' _ L' (Nat.le_add_right _ _) sb z2 c1 c2
end
end QB
/-! ### sorted(set(x)), len(set(x)) -/
namespace QB
open PySem PySem.Spec PyProof.Rows L2
/-! #### order -/
theorem data_total : PySem.W.TotalLe (PySem.W.dataLe false (id : PyData → PyData)) := PySem.W.sortLe_total _ _ _
theorem all_eq_perm {α : Type} {p q : List α} (h : p.Perm q) (e : ∀ x ∈ p, ∀ y ∈ p, x = y) : p = q := by
  cases p with
  | nil => rw [List.nil_perm.mp h]
  | cons a p =>
    have h1 : a :: p = List.replicate (p.length + 1) a := List.eq_replicate_iff.mpr ⟨rfl, fun b hb => e b hb a List.mem_cons_self⟩
    have h2 : q = List.replicate (p.length + 1) a := List.eq_replicate_iff.mpr ⟨h.length_eq.symm, fun b hb => e b (h.mem_iff.mpr hb) a List.mem_cons_self⟩
    rw [h1, h2]
theorem sort_perm {A B : List PyData} (h : A.Perm B) (inj : ∀ x ∈ A, ∀ y ∈ A, PySem.W.keyToks x = PySem.W.keyToks y → x = y) : sortD A = sortD B := by
  refine PySem.W.sort_one data_total _ _ (PySem.W.sort_pairwise data_total A) (PySem.W.sort_pairwise data_total B) fun c => ?_
  unfold sortD
  rw [PySem.W.sort_stable data_total, PySem.W.sort_stable data_total]
  refine all_eq_perm (h.filter _) fun x hx y hy => ?_
  rw [List.mem_filter] at hx hy
  refine inj x hx.1 y hy.1 ?_
  have key : ∀ z, PySem.W.sameRank (PySem.W.dataLe false id) c z = true → PySem.W.keyToks z = PySem.W.keyToks c := fun z hz => by
    unfold PySem.W.sameRank PySem.W.dataLe PySem.W.sortLe at hz
    simp only [cond_false, Bool.and_eq_true, Bool.not_eq_true'] at hz
    exact (PyProof.Rows.listOrd PyProof.Rows.itemOrd).total _ _ hz.1 hz.2
  rw [key x hx.2, key y hy.2]
/-! #### once each -/
def dedupE {κ : Type} [DecidableEq κ] : List κ → List κ
  | [] => []
  | k :: r => k :: (dedupE r).filter fun j => !decide (k = j)
theorem mem_dedupE {κ : Type} [DecidableEq κ] {x : κ} : ∀ {l : List κ}, x ∈ dedupE l ↔ x ∈ l
  | [] => Iff.rfl
  | k :: r => by
    rw [dedupE, List.mem_cons, List.mem_cons, List.mem_filter, mem_dedupE]
    constructor
    · rintro (h | h)
      · exact .inl h
      · exact .inr h.1
    · rintro (h | h)
      · exact .inl h
      · by_cases e : k = x
        · exact .inl e.symm
        · exact .inr ⟨h, by simp [e]⟩
theorem nodup_dedupE {κ : Type} [DecidableEq κ] : ∀ (l : List κ), (dedupE l).Nodup
  | [] => List.nodup_nil
  | k :: r => by
    rw [dedupE, List.nodup_cons]
    refine ⟨fun h => ?_, (nodup_dedupE r).filter _⟩
    rw [List.mem_filter] at h
    simp at h
theorem dedup_map {κ : Type} [DecidableEq κ] {enc : κ → PyData} (he : ∀ a b, PyData.eqv (enc a) (enc b) = decide (a = b)) : ∀ (l : List κ), dedup (l.map enc) = (dedupE l).map enc
  | [] => rfl
  | k :: r => by
    rw [List.map_cons, dedup, dedup_map he r, dedupE, List.map_cons, List.filter_map]
    congr 2
    congr 1
    funext j
    simp [he]
/-! #### the kinds -/
structure KindOk (P : Program) (w : World) {κ : Type} [DecidableEq κ] (enc : κ → PyData) (isM : Heap → Value → κ → Prop) (Z : Heap → Addr → List (Value × κ) → Prop) (bd : Nat) : Prop where
  bag : Bag P w isM Z bd
  ofR : ∀ {h : Heap} {v : Value} {k : κ} {as : List Addr}, Reads h v (enc k) as → isM h v k
  toR : ∀ {h : Heap} {v : Value} {k : κ}, isM h v k → Reads h v (enc k) []
  eqd : ∀ a b, PyData.eqv (enc a) (enc b) = decide (a = b)
  tok : ∀ a b, PySem.W.keyToks (enc a) = PySem.W.keyToks (enc b) → a = b
def keyD : Key → PyData
  | .inl i => .int i
  | .inr z => .str z
def tupD (ks : List Key) : PyData := .tuple (ks.map keyD)
theorem eqv_key (a b : Key) : PyData.eqv (keyD a) (keyD b) = decide (a = b) := by
  cases a <;> cases b <;> simp [keyD, PyData.eqv]
  · rename_i i j; by_cases h : i = j <;> simp [h]
  · rename_i i j; by_cases h : i = j <;> simp [h]
theorem eqv_keys : ∀ (a b : List Key), PyData.eqvAll (a.map keyD) (b.map keyD) = decide (a = b)
  | [], [] => by simp [PyData.eqvAll]
  | [], _ :: _ => by simp [PyData.eqvAll]
  | _ :: _, [] => by simp [PyData.eqvAll]
  | x :: a, y :: b => by
    rw [List.map_cons, List.map_cons, PyData.eqvAll, eqv_key, eqv_keys a b]
    by_cases h1 : x = y <;> by_cases h2 : a = b <;> simp [h1, h2]
theorem str_cps {x y : Str} (h : x.cps.toList = y.cps.toList) : x = y := by
  cases x; cases y
  simp only [Str.mk.injEq]
  exact Array.toList_inj.mp h
theorem toks_key (a b : Key) (h : PySem.W.keyToks (keyD a) = PySem.W.keyToks (keyD b)) : a = b := by
  cases a <;> cases b <;> simp [keyD, PySem.W.keyToks] at h
  · rw [h]
  · rename_i x y; cases x; cases y; exact congrArg Sum.inr (congrArg Str.mk h)
theorem toks_keys : ∀ (a b : List Key), PySem.W.keyToksAll (a.map keyD) = PySem.W.keyToksAll (b.map keyD) → a = b
  | [], [], _ => rfl
  | [], y :: b, h => by simp [PySem.W.keyToksAll] at h
  | x :: a, [], h => by simp [PySem.W.keyToksAll] at h
  | x :: a, y :: b, h => by
    rw [List.map_cons, List.map_cons, PySem.W.keyToksAll, PySem.W.keyToksAll] at h
    have one : ∀ k : Key, ∃ t, PySem.W.keyToks (keyD k) = [t] := fun k => by cases k <;> exact ⟨_, by simp [keyD, PySem.W.keyToks]; rfl⟩
    obtain ⟨t, ht⟩ := one x
    obtain ⟨u, hu⟩ := one y
    rw [ht, hu] at h
    injection h with _ h
    injection h with h1 h2
    rw [toks_key x y (by rw [ht, hu, h1]), toks_keys a b h2]
theorem kind_key {P : Program} {w : World} : KindOk P w keyD (isV (mixKind P w)) (ZV (mixKind P w)) 4000 where
  bag := bagV _
  ofR := fun {h v k as} r => by
    cases k with
    | inl i => cases r with | int _ t => exact ⟨keyIs_int i t, rfl⟩
    | inr z => cases r with | str _ t => exact ⟨keyIs_str z t, rfl⟩
  toR := fun {h v k} m => by
    rcases keyIs_shape m.1 with ⟨i, t, rfl, rfl⟩ | ⟨x, t, rfl, rfl⟩
    · exact .int i t
    · exact .str x t
  eqd := eqv_key
  tok := toks_key
theorem items_reads {P : Program} {w : World} {h : Heap} : ∀ {ks : List Key} {vs : List Value} {as : List Addr}, ReadsAll h vs (ks.map keyD) as → ItemsAre (mixKind P w) ks vs
  | [], _, _, r => by cases r; exact .nil
  | k :: ks, _, _, r => by
    cases r with
    | cons r1 r2 => exact .cons ((kind_key (P := P) (w := w)).ofR r1).1 (items_reads r2)
theorem reads_items {P : Program} {w : World} {h : Heap} : ∀ {ks : List Key} {vs : List Value}, ItemsAre (mixKind P w) ks vs → ReadsAll h vs (ks.map keyD) []
  | [], _, r => by cases r; exact .nil
  | k :: ks, _, r => by
    cases r with
    | @cons _ v _ _ r1 r2 =>
      have e : Reads h v (keyD k) [] := by
        rcases keyIs_shape r1 with ⟨i, t, rfl, rfl⟩ | ⟨x, t, rfl, rfl⟩
        · exact .int i t
        · exact .str x t
      exact .cons (as := []) (bs := []) e (reads_items r2)
theorem kind_tup {P : Program} {w : World} : KindOk P w tupD (isU P w) (ZU P w) 4 where
  bag := bagU
  ofR := fun {h v k as} r => by
    unfold tupD at r
    cases r with
    | tuple h1 h2 h3 h4 => exact ⟨_, rfl, _, _, _, h1, h2, h3, items_reads h4⟩
  toR := fun {h v k} ⟨b, e, o, items, n, h1, h2, h3, h4⟩ => by
    rw [e]
    exact .tuple h1 h2 h3 (reads_items h4)
  eqd := fun a b => by
    show PyData.eqv (.tuple _) (.tuple _) = _
    rw [PyData.eqv, eqv_keys]
  tok := fun a b h => by
    unfold tupD at h
    rw [PySem.W.keyToks, PySem.W.keyToks] at h
    exact toks_keys a b h
theorem isB_of {P : Program} {w : World} {h : Heap} {v : Value} {k : Bool} {as : List Addr} (r : Reads h v (.bool k) as) : isV (PpSet.boolK P w) h v k := by
  cases r
  exact ⟨beq_self_eq_true k, rfl⟩
/-! #### what lies behind set(x) -/
section
variable {P : Program} {w : World} {A : Around} {E : Value → Shared → Prop} {s : Shared} {κ : Type} [DecidableEq κ] {enc : κ → PyData} {isM : Heap → Value → κ → Prop} {Z : Heap → Addr → List (Value × κ) → Prop} {bd : Nat}
/-- a bag that knows more of its values -/
theorem Bag.with (B : Bag P w isM Z bd) (R : Value → κ → Prop) : Bag P w (fun h v k => isM h v k ∧ R v k) Z bd where
  op := B.op
  nd := B.nd
  new := B.new
  keep := fun z k g => B.keep z k fun p hp => (g p hp).1
  add := fun hu z hk hl hQ => B.add hu z hk.1 hl hQ
theorem got_perm {ks L : List κ} (g : GotK ks ks.length L) (nd : L.Nodup) : L.Perm (dedupE ks) := by
  refine (List.perm_ext_iff_of_nodup nd (nodup_dedupE ks)).mpr fun x => ?_
  rw [mem_dedupE]
  refine ⟨fun h => ?_, fun h => g.all x (by rw [List.take_length]; exact h)⟩
  have := g.sub x h
  rwa [List.take_length] at this
theorem each_of {α β γ : Type} {R : α → γ → Prop} {f : β → α × γ} : ∀ (l : List β), (∀ p ∈ l, R (f p).1 (f p).2) → PySem.W.EachIs R (l.map fun p => (f p).1) (l.map fun p => (f p).2)
  | [], _ => .nil
  | p :: l, h => .cons (h p List.mem_cons_self) (each_of l fun q hq => h q (List.mem_cons_of_mem _ hq))
/-- sorted(a), a a set that has got ks -/
theorem sort_bag (Kd : KindOk P w enc isM Z bd) {a : Addr} {L : List (Value × κ)} {R : Value → κ → Prop} {Q : Value → Shared → Prop} (z : Z s.heap a L) (hh : A.handled = none) (good : ∀ p ∈ L, ∀ h2, Kept s.heap h2 → isM h2 p.1 p.2 ∧ R p.1 p.2)
    (hal : PySem.W.AllAlike (L.map fun p => enc p.2)) (hk : PySem.W.Sortable (L.map fun p => enc p.2)) (hu : ∀ p ∈ L, A.units + 2 + (enc p.2).depth < cLine)
    (hQ : ∀ s' p (out : Array Value) (c : Nat) (ks : List κ), Kept s.heap s'.heap → s'.gens = s.gens → s'.os = s.os → s.heap.objs.size ≤ p → s'.heap.get? p = some (seqObj "list" out c) → ks.Perm (L.map (·.2)) →
      PySem.W.EachIs R out.toList (ks.mergeSort (PySem.W.dataLe false enc)) → Q (.ref p) s') : wpAny (model P w) A (call (.builtin "sorted") [.ref a]) Q E s := by
  obtain ⟨o, es, ep, t, ho, hex, hd, bx, ev⟩ := Kd.bag.op z
  refine Calls.call_function_entry kind_sorted plain_sorted entry_sorted (args_sorted1 _) ?_
  unfold Builtin.«sorted»
  refine wpAny_bind (m := checkCount "sorted" 1 1 _) (wpAny_pure (wpAny_bind (collect_set (A := A.in1) hh ⟨o, ho, hex.1, hd⟩ bx.fits bx.few bx.ris bx.led fun s1 vs k1 hz g1 o1 pm => ?_)))
  rw [ev] at pm
  obtain ⟨L1, e1, p1⟩ := perm_unmap (·.1) pm L rfl
  have hl : vs.length < scanBound := by
    have h1 : es.toList.length = L.length := by have := congrArg List.length ev; simpa using this
    rw [e1, List.length_map, p1.length_eq, ← h1, Array.length_toList]
    exact bx.few
  have hl2 : vs.length ≤ sizeLine := Nat.le_of_lt (Nat.lt_of_lt_of_le hl (by rw [sizeLine_eq]; unfold scanBound; decide))
  refine wpAny_bind (wpAny_newList ?_ hl2)
  have hoL : (s1.heap.push (seqObj "list" vs.toArray 0)).get? s1.heap.objs.size = some (seqObj "list" vs.toArray 0) := Heap.get?_push_size _ rfl
  have kp : Kept s.heap (s1.heap.push (seqObj "list" vs.toArray 0)) := fun b u e => Heap.get?_push_of_some _ (k1 b u e)
  have g : ∀ p ∈ L1, isM (s1.heap.push (seqObj "list" vs.toArray 0)) p.1 p.2 ∧ R p.1 p.2 := fun p hp => good p (p1.mem_iff.mp hp) _ kp
  have hp2 : (L1.map fun p => enc p.2).Perm (L.map fun p => enc p.2) := p1.map _
  have em : (L1.map (·.2)).map enc = L1.map fun p => enc p.2 := by rw [List.map_map]; rfl
  have ee1 : PySem.W.EachIs R vs (L1.map (·.2)) := by rw [e1]; exact each_of (f := id) L1 fun p hp => (g p hp).2
  have ee2 : PySem.W.EachIs (fun v b => ∃ as, Reads (s1.heap.push (seqObj "list" vs.toArray 0)) v (enc b) as ∧ s1.heap.objs.size ∉ as) vs (L1.map (·.2)) := by
    have : PySem.W.EachIs (fun v b => ∃ as, Reads (s1.heap.push (seqObj "list" vs.toArray 0)) v (enc b) as ∧ s1.heap.objs.size ∉ as) (L1.map (·.1)) (L1.map (·.2)) := each_of (f := id) L1 fun p hp => ⟨[], Kd.toR (g p hp).1, by simp⟩
    rwa [← e1] at this
  refine wpAny_bind (wpAny_holding (PySem.W.list_sort_data (s := { s1 with heap := s1.heap.push (seqObj "list" vs.toArray 0) }) (vs := vs) (bs := L1.map (·.2)) (enc := enc) (R := R) hoL ee1 ee2
    (by rw [em]; exact fun x hx y hy => hal x (hp2.mem_iff.mp hx) y (hp2.mem_iff.mp hy))
    (by rw [em]; rcases hk with q | q; exact .inl fun x hx => q x (hp2.mem_iff.mp hx); exact .inr fun x hx => q x (hp2.mem_iff.mp hx))
    (by rw [List.length_map, ← List.length_map (f := (·.1)), ← e1]; exact hl2) (fun b hb => by
      obtain ⟨p, hp, rfl⟩ := List.mem_map.mp hb
      have := hu p (p1.mem_iff.mp hp)
      show A.units + 1 + 1 + _ < _
      omega) fun out ho eo => ?_))
  obtain ⟨c, hc⟩ := sortedHeap_at (vs := vs) (out := out.toArray) hoL
  refine wpAny_pure ⟨_, rfl, hQ _ s1.heap.objs.size out.toArray c (L1.map (·.2)) (fun b u e => ?_) g1 o1 hz hc (p1.map _) (by simpa using eo)⟩
  have q := k1 b u e
  have hlt := Heap.lt_size q
  show (sortedHeap (s1.heap.push (seqObj "list" vs.toArray 0)) s1.heap.objs.size vs out.toArray).get? b = some u
  rw [sortedHeap_old (Nat.ne_of_lt hlt) (by rw [size_push']; exact Nat.lt_succ_of_lt hlt)]
  exact Heap.get?_push_of_some _ q
end
end QB
/-! ### the rules for sorted(set(x)) and len(set(x)) -/
namespace QB
open PySem PySem.Spec PyProof.Rows L2
section
variable {X : Cx} {pins : List (Addr × Obj)} {σ : L2.St} {H Hs : Hp} {s : Shared} {κ : Type} [DecidableEq κ] {enc : κ → PyData} {isM : Heap → Value → κ → Prop} {Z : Heap → Addr → List (Value × κ) → Prop} {bd : Nat}
abbrev RD (Hs : Hp) (enc : κ → PyData) : Value → κ → Prop := fun v k => ∃ x, RelV x v ∧ Dd Hs x (enc k)
theorem each_enc {α : Type} {R : Value → PyData → Prop} {f : α → PyData} : ∀ {vs : List Value} {bs : List α}, PySem.W.EachIs (fun v b => R v (f b)) vs bs → PySem.W.EachIs R vs (bs.map f)
  | _, _, .nil => .nil
  | _, _, .cons h t => .cons h (each_enc t)
/-- sorted(..) behind set(..) -/
theorem after_sset (Kd : KindOk X.prog X.w enc isM Z bd) (hc : X.calm = true) (hu : X.A.units + 64 < cLine) (I : Inv X pins σ H s) (sub : Same Hs H) {ks : List κ} {Q : VK}
    (hq : PostG (fun _ _ => False) Hs H (srtD (dedup (ks.map enc))) okD Q) :
    Done Z (fun h v k => isM h v k ∧ RD Hs enc v k) ks s (fun u s' => wpAny (model X.prog X.w) X.A (call (.builtin "sorted") [u]) (EP X pins σ Q) X.xe s') := by
  intro h' tk L hz got good kp
  obtain ⟨hck, hq⟩ := PostG.when hq
  simp only [Bool.and_eq_true] at hck
  obtain ⟨⟨⟨h1, h2⟩, h3⟩, h4⟩ := hck
  rw [dedup_map Kd.eqd] at h1 h2 h3 h4 hq
  have pm := got_perm got (Kd.bag.nd hz)
  have pe : (L.map fun p => enc p.2).Perm ((dedupE ks).map enc) := by
    have := pm.map enc
    rwa [List.map_map] at this
  obtain ⟨o0, _, _, _, ho0, _⟩ := Kd.bag.op hz
  have hbig : s.heap.objs.size ≤ h'.objs.size := Nat.le_of_lt (Heap.lt_size ho0)
  refine sort_bag (s := { s with heap := h', toks := tk }) Kd (R := RD Hs enc) hz (I.ok.hd hc) (fun p hp h2 k2 => good p hp h2 fun b o e => k2 b o (kp b o e)) (fun x hx y hy => all_alike h1 x (pe.mem_iff.mp hx) y (pe.mem_iff.mp hy)) ?_ (fun p hp => ?_) fun s' q out c ks' k2 g2 o2 hp hg pk eo => ?_
  · rcases is_sortable h2 with z | z
    · exact .inl fun x hx => z x (pe.mem_iff.mp hx)
    · exact .inr fun x hx => z x (pe.mem_iff.mp hx)
  · have := of_decide_eq_true (List.all_eq_true.mp h4 _ (pe.mem_iff.mp (List.mem_map.mpr ⟨p, hp, rfl⟩)))
    omega
  · have e1 : (ks'.mergeSort (PySem.W.dataLe false enc)).map enc = sortD ((dedupE ks).map enc) := by
      have q1 : (ks'.mergeSort (PySem.W.dataLe false enc)).map enc = (ks'.map enc).mergeSort (PySem.W.dataLe false id) := PySem.W.sort_maps enc fun a _ b _ => rfl
      rw [q1]
      refine sort_perm ((pk.trans pm).map enc) fun x hx y hy e => ?_
      obtain ⟨a, _, rfl⟩ := List.mem_map.mp hx
      obtain ⟨b, _, rfl⟩ := List.mem_map.mp hy
      rw [Kd.tok a b e]
    have e2 : PySem.W.EachIs (fun u d => ∃ v, RelV v u ∧ Dd Hs v d) out.toList (sortD ((dedupE ks).map enc)) := by rw [← e1]; exact each_enc eo
    obtain ⟨ws, w1, w2⟩ := dd_each e2
    have hp' : s.heap.objs.size ≤ q := Nat.le_trans hbig hp
    have hn : H q = none := I.hok.fresh hp'
    have kk : ∀ b u, s.heap.get? b = some u → s'.heap.get? b = some u := fun b u e => k2 b u (kp b u e)
    have hlen : ws.length ≤ sizeLine := by
      rw [w1.length, e2.length]
      have : (sortD ((dedupE ks).map enc)).length = ((dedupE ks).map enc).length := (List.mergeSort_perm ..).length_eq
      rw [this]
      exact lim_line (of_decide_eq_true h3)
    refine ⟨.ref q, upd H q (.lst ws), I.call' (ch := []) o2 (Un.laid kk hp' hn) (I.hok.laid kk hp' ⟨hlen, out.toList, c, w1, by simpa using hg⟩) (by rw [g2]; exact I.bare) (fun _ z => nomatch z), rfl, ?_⟩
    exact hq (.ref q) (upd Hs q (.lst ws)) _ (Ext.laid sub hn) (.lst (.inl upd_same) (dpaMono (same_new (sub.free hn)) _ w2))
/-- len(..) behind set(..) -/
theorem after_lset (B : Bag X.prog X.w isM Z bd) (he : ∀ a b, PyData.eqv (enc a) (enc b) = decide (a = b)) (I : Inv X pins σ H s) (sub : Same Hs H) {ks : List κ} {R : Value → κ → Prop} {Q : VK}
    (hq : PostG (fun _ _ => False) Hs H (.ok (.int (dedup (ks.map enc)).length)) okD Q) :
    Done Z (fun h v k => isM h v k ∧ R v k) ks s (fun u s' => wpAny (model X.prog X.w) X.A (call (.builtin "len") [u]) (EP X pins σ Q) X.xe s') := by
  intro h' tk L hz got good kp
  rw [dedup_map he, List.length_map] at hq
  have pm := got_perm got (B.nd hz)
  obtain ⟨o, es, ep, t, ho, hex, hd, bx, ev⟩ := B.op hz
  have hn : es.size = (dedupE ks).length := by
    have h1 := congrArg List.length ev
    have h2 := pm.length_eq
    simp only [List.length_map, Array.length_toList] at h1 h2
    omega
  have I2 : Inv X pins σ H { s with heap := h', toks := tk } := I.kept kp
  have hb := bx.few
  refine call_len_set (s := { s with heap := h', toks := tk }) ho hex hd bx.fits (by unfold scanBound at hb; omega) ⟨.int es.size, H, I2.tok _, ⟨_, rfl⟩, ?_⟩
  rw [hn]
  exact hq _ Hs H (Ext.refl sub) (.int _)
theorem set_list {Q : Value → Shared → Prop} {l : Addr} {xs : List V} {ks : List κ} (B : Bag X.prog X.w isM Z bd) (ofR : ∀ {h : Heap} {v : Value} {k : κ} {as : List Addr}, Reads h v (enc k) as → isM h v k) (hc : X.calm = true) (hu : X.A.units + 64 < cLine) (I : Inv X pins σ H s) (sub : Same Hs H)
    (h1 : Rd Hs l (.lst xs)) (h2 : DdAll Hs xs (ks.map enc)) (hb : ks.length ≤ bd) (fin : Done Z (fun h v k => isM h v k ∧ RD Hs enc v k) ks s Q) : wpAny (model X.prog X.w) X.A (call (.type "set") [.ref l]) Q X.xe s := by
  obtain ⟨z, its, n, r, e⟩ := rdL I (rdS sub h1)
  have hl : its.length = ks.length := by rw [← r.length, dpaLen h2, List.length_map]
  refine set_of_list (B.with (RD Hs enc)) (I.ok.hd hc) (by omega) ⟨_, e, rfl, n, rfl⟩ (by simpa using hl) (fun i v hv => ?_) hb fin
  have hv' : its[i]? = some v := by simpa using hv
  have hi : i < ks.length := by rw [← hl]; exact (List.getElem?_eq_some_iff.mp hv').1
  have hk := List.getElem?_eq_getElem hi
  obtain ⟨x, e1, e2⟩ := dpaGet h2 (i := i) (d := enc ks[i]) (by rw [List.getElem?_map, hk]; rfl)
  obtain ⟨u, hu', rx⟩ := r.get e1
  rw [hv'] at hu'
  cases hu'
  obtain ⟨as, ra⟩ := ddReads I sub e2 rx
  exact ⟨_, hk, fun h' kp => ⟨ofR (PyProof.Rows.Reads.keeps kp ra), x, rx, e2⟩⟩
theorem set_text {Q : Value → Shared → Prop} {z : Str} {tz : Tok} (hc : X.calm = true) (hu : X.A.units + 64 < cLine) (I : Inv X pins σ H s) (ho : PyData.strOk z = true) (hz : z.length ≤ 2000)
    (fin : Done (ZV (mixKind X.prog X.w)) (fun h v k => isV (mixKind X.prog X.w) h v k ∧ RD Hs keyD v k) (z.cps.toList.map fun c => (Sum.inr ⟨#[c]⟩ : Key)) s Q) : wpAny (model X.prog X.w) X.A (call (.type "set") [.str z tz]) Q X.xe s := by
  refine set_of_text ((kind_key (P := X.prog) (w := X.w)).bag.with (RD Hs keyD)) (I.ok.hd hc) (by omega) (by simp) (fun i v hv => ?_) (by simp; unfold Str.length at hz; omega) fin
  obtain ⟨c, u, h1, rfl⟩ := hv
  have hm : c ∈ z.cps.toList := List.mem_of_getElem? (by simpa using h1)
  refine ⟨.inr ⟨#[c]⟩, by simp [h1], fun h' kp => ⟨⟨keyIs_str ⟨#[c]⟩ u, rfl⟩, .str ⟨#[c]⟩, ⟨u, rfl⟩, .str _ (strOk_one ho hm)⟩⟩
/-! #### which kind -/
theorem ints_keys : ∀ {ds : List PyData} {ns : List Int}, asInts ds = some ns → ds = (ns.map (Sum.inl : Int → Key)).map keyD
  | [], ns, h => by cases h; rfl
  | .int i :: ds, ns, h => by
    cases q : asInts ds with
    | none => rw [asInts, q] at h; cases h
    | some r => rw [asInts, q] at h; cases h; rw [ints_keys q]; rfl
  | .none :: _, _, h => by cases h
  | .bool _ :: _, _, h => by cases h
  | .str _ :: _, _, h => by cases h
  | .list _ :: _, _, h => by cases h
  | .tuple _ :: _, _, h => by cases h
  | .dict _ :: _, _, h => by cases h
theorem strs_keys : ∀ {ds : List PyData} {ns : List Str}, asStrs ds = some ns → ds = (ns.map (Sum.inr : Str → Key)).map keyD
  | [], ns, h => by cases h; rfl
  | .str i :: ds, ns, h => by
    cases q : asStrs ds with
    | none => rw [asStrs, q] at h; cases h
    | some r => rw [asStrs, q] at h; cases h; rw [strs_keys q]; rfl
  | .none :: _, _, h => by cases h
  | .bool _ :: _, _, h => by cases h
  | .int _ :: _, _, h => by cases h
  | .list _ :: _, _, h => by cases h
  | .tuple _ :: _, _, h => by cases h
  | .dict _ :: _, _, h => by cases h
theorem bools_keys : ∀ {ds : List PyData} {ns : List Bool}, asBools ds = some ns → ds = ns.map PyData.bool
  | [], ns, h => by cases h; rfl
  | .bool i :: ds, ns, h => by
    cases q : asBools ds with
    | none => rw [asBools, q] at h; cases h
    | some r => rw [asBools, q] at h; cases h; rw [bools_keys q]; rfl
  | .none :: _, _, h => by cases h
  | .str _ :: _, _, h => by cases h
  | .int _ :: _, _, h => by cases h
  | .list _ :: _, _, h => by cases h
  | .tuple _ :: _, _, h => by cases h
  | .dict _ :: _, _, h => by cases h
theorem keysOf_is : ∀ {ds : List PyData} {ks : List Key}, keysOf ds = some ks → ds = ks.map keyD
  | [], ks, h => by cases h; rfl
  | d :: ds, ks, h => by
    cases q1 : keyOf d with
    | none => rw [keysOf, q1] at h; cases h
    | some k =>
      cases q2 : keysOf ds with
      | none => rw [keysOf, q1, q2] at h; cases h
      | some r =>
        rw [keysOf, q1, q2] at h
        cases h
        rw [keysOf_is q2]
        cases d <;> cases q1 <;> rfl
theorem tups_keys : ∀ {ds : List PyData}, (ds.all fun d => match d with | .tuple (x :: r) => (keysOf (x :: r)).isSome | _ => false) = true → ∃ ts : List (List Key), ds = ts.map tupD
  | [], _ => ⟨[], rfl⟩
  | d :: ds, h => by
    rw [List.all_cons, Bool.and_eq_true] at h
    obtain ⟨ts, e⟩ := tups_keys h.2
    have h1 := h.1
    split at h1
    · rename_i x r
      cases q : keysOf (x :: r) with
      | none => rw [q] at h1; cases h1
      | some ks => exact ⟨ks :: ts, by rw [List.map_cons, ← e]; unfold tupD; rw [← keysOf_is q]⟩
    · cases h1
theorem set_kinds {ds : List PyData} (h : setOk ds = true) : (∃ ks : List Key, ds = ks.map keyD ∧ ks.length ≤ 4000) ∨ ∃ ts : List (List Key), ds = ts.map tupD ∧ ts.length ≤ 4 := by
  unfold setOk at h
  simp only [Bool.and_eq_true, Bool.or_eq_true, decide_eq_true_eq] at h
  obtain ⟨hl, (h | h) | h⟩ := h
  · obtain ⟨ns, e⟩ := Option.isSome_iff_exists.mp h
    have := ints_keys e
    exact .inl ⟨_, this, by rw [this, List.length_map] at hl; omega⟩
  · obtain ⟨ns, e⟩ := Option.isSome_iff_exists.mp h
    have := strs_keys e
    exact .inl ⟨_, this, by rw [this, List.length_map] at hl; omega⟩
  · unfold tupKeys at h
    rw [Bool.and_eq_true, decide_eq_true_eq] at h
    obtain ⟨ts, e⟩ := tups_keys h.2
    exact .inr ⟨ts, e, by have := h.1; rw [e, List.length_map] at this; exact this⟩
theorem un1_sset (d : PyData) : un1 .sset d = R.of (setSrc d) fun ds => R.when (setOk ds) (srtD (dedup ds)) := by cases d <;> rfl
theorem un1_lset (d : PyData) : un1 .lset d = R.of (setSrc d) fun ds => R.when (setOk ds || (asBools ds).isSome && decide (ds.length ≤ 2000)) (.ok (.int (dedup ds).length)) := by cases d <;> rfl
theorem core_sset {x : V} {v : Value} {d : PyData} {Q : VK} (hc : X.calm = true) (hu : X.A.units + 64 < cLine) (I : Inv X pins σ H s) (r : RelV x v) (sub : Same Hs H) (hd : Dd Hs x d) (hq : PostG (fun _ _ => False) Hs H (un1 .sset d) okD Q) :
    wpAny (model X.prog X.w) X.A (call (.type "set") [v]) (fun u s' => wpAny (model X.prog X.w) X.A (call (.builtin "sorted") [u]) (EP X pins σ Q) X.xe s') X.xe s := by
  rw [un1_sset] at hq
  cases d with
  | list ds =>
    obtain ⟨ds', e, hq⟩ := PostG.of hq
    cases e
    obtain ⟨hs, hq⟩ := PostG.when hq
    cases hd with
    | lst h1 h2 =>
      cases r
      rcases set_kinds hs with ⟨ks, rfl, hl⟩ | ⟨ks, rfl, hl⟩
      · exact set_list kind_key.bag kind_key.ofR hc hu I sub h1 h2 hl (after_sset kind_key hc hu I sub hq)
      · exact set_list kind_tup.bag kind_tup.ofR hc hu I sub h1 h2 hl (after_sset kind_tup hc hu I sub hq)
  | str z =>
    obtain ⟨ds', e, hq⟩ := PostG.of hq
    have e : (if z.length ≤ 2000 then some (z.cps.toList.map fun c => PyData.str ⟨#[c]⟩) else none) = some ds' := e
    split at e
    · rename_i hz
      cases e
      obtain ⟨hs, hq⟩ := PostG.when hq
      cases hd with
      | str _ ho =>
        obtain ⟨t, rfl⟩ := r
        have em : (z.cps.toList.map fun c => PyData.str ⟨#[c]⟩) = (z.cps.toList.map fun c => (Sum.inr ⟨#[c]⟩ : Key)).map keyD := by rw [List.map_map]; rfl
        rw [em] at hq
        exact set_text hc hu I ho hz (after_sset kind_key hc hu I sub hq)
    · cases e
  | _ => exact hq.elim
theorem eqv_bool (a b : Bool) : PyData.eqv (.bool a) (.bool b) = decide (a = b) := by cases a <;> cases b <;> simp [PyData.eqv]
theorem core_lset {x : V} {v : Value} {d : PyData} {Q : VK} (hc : X.calm = true) (hu : X.A.units + 64 < cLine) (I : Inv X pins σ H s) (r : RelV x v) (sub : Same Hs H) (hd : Dd Hs x d) (hq : PostG (fun _ _ => False) Hs H (un1 .lset d) okD Q) :
    wpAny (model X.prog X.w) X.A (call (.type "set") [v]) (fun u s' => wpAny (model X.prog X.w) X.A (call (.builtin "len") [u]) (EP X pins σ Q) X.xe s') X.xe s := by
  rw [un1_lset] at hq
  cases d with
  | list ds =>
    obtain ⟨ds', e, hq⟩ := PostG.of hq
    cases e
    obtain ⟨hs, hq⟩ := PostG.when hq
    cases hd with
    | lst h1 h2 =>
      cases r
      rw [Bool.or_eq_true] at hs
      rcases hs with hs | hs
      · rcases set_kinds hs with ⟨ks, rfl, hl⟩ | ⟨ks, rfl, hl⟩
        · exact set_list kind_key.bag kind_key.ofR hc hu I sub h1 h2 hl (after_lset kind_key.bag (kind_key (P := X.prog) (w := X.w)).eqd I sub hq)
        · exact set_list kind_tup.bag kind_tup.ofR hc hu I sub h1 h2 hl (after_lset kind_tup.bag (kind_tup (P := X.prog) (w := X.w)).eqd I sub hq)
      · rw [Bool.and_eq_true, decide_eq_true_eq] at hs
        obtain ⟨bs, e⟩ := Option.isSome_iff_exists.mp hs.1
        have := bools_keys e
        subst this
        exact set_list (bagV (PpSet.boolK X.prog X.w)) isB_of hc hu I sub h1 h2 (by have := hs.2; rw [List.length_map] at this; omega) (after_lset (bagV (PpSet.boolK X.prog X.w)) eqv_bool I sub hq)
  | str z =>
    obtain ⟨ds', e, hq⟩ := PostG.of hq
    have e : (if z.length ≤ 2000 then some (z.cps.toList.map fun c => PyData.str ⟨#[c]⟩) else none) = some ds' := e
    split at e
    · rename_i hz
      cases e
      obtain ⟨hs, hq⟩ := PostG.when hq
      cases hd with
      | str _ ho =>
        obtain ⟨t, rfl⟩ := r
        have em : (z.cps.toList.map fun c => PyData.str ⟨#[c]⟩) = (z.cps.toList.map fun c => (Sum.inr ⟨#[c]⟩ : Key)).map keyD := by rw [List.map_map]; rfl
        rw [em] at hq
        exact set_text (Hs := Hs) hc hu I ho hz (after_lset kind_key.bag (kind_key (P := X.prog) (w := X.w)).eqd I sub hq)
    · cases e
  | _ => exact hq.elim
end
section
variable {X : Cx} {W : WX} {a : Expr} {ma : Env → R PyData}
def tSet (u : Un) (ta : TE) : TE := fun σ H Q => ta σ H fun v H1 => ∃ Hs d, Same Hs H1 ∧ Dd Hs v d ∧ PostG (fun _ _ => False) Hs H1 (un1 u d) okD Q
theorem tSet_read {u : Un} {ta : TE} {σ : L2.St} {ρ : Env} {Hs H : Hp} {Q : VK} (qa : ∀ ρ σ Hs H Q, Rel0 ρ σ Hs H → PostG (Exc X W σ) Hs H (ma ρ) okD Q → ta σ H Q) (r : Rel0 ρ σ Hs H) (h : PostG (Exc X W σ) Hs H ((ma ρ).bind fun d => un1 u d) okD Q) : tSet u ta σ H Q :=
  qa ρ σ Hs H _ r (h.seq fun d v Hs1 H1 _ e1 o1 h1 => ⟨Hs1, d, e1.sub, o1, h1.firm (un1_noexc u d)⟩)
theorem de_sset {p p2 q pos : Pos} (hc : X.calm = true) (hu : X.A.units + 64 < cLine) (b1 : BltB X "sorted" "sorted") (b2 : BltT X "set" "set") (hs : noStar a = true) (ha : DE X W a ma) :
    DE X W (.Call (.Name "sorted" p) [.Call (.Name "set" p2) [a] [] q] [] pos) (fun ρ => (ma ρ).bind fun d => un1 .sset d) := by
  obtain ⟨ta, pa, qa⟩ := ha
  refine ⟨tSet .sset ta, ⟨fun pins s σ H Q I h => ?_⟩, fun ρ σ Hs H Q r h => tSet_read qa r h⟩
  refine Call_ (ld_blt I b1.1 b1.2.1 b1.2.2.1 (PyProof.Rows.callWith_builtin1 (PyProof.Rows.args_cons ?_ rfl) rfl rfl))
  refine Call_ (ld_blt I b2.1 b2.2.1 b2.2.2.1 (PyProof.Rows.callWith_type1 (PyProof.Rows.args_cons (thn (pa.run pins s σ H _ I h) fun v s1 ⟨x, H1, I1, r1, q1⟩ => PyProof.Rows.args_nil ?_) (star_cons hs)) (star_cons hs) rfl))
  obtain ⟨Hs, d, sub, hd, hq⟩ := q1
  exact thn (core_sset hc hu I1 r1 sub hd hq) fun u s' h' => PyProof.Rows.args_nil h'
theorem de_lset {p p2 q pos : Pos} (hc : X.calm = true) (hu : X.A.units + 64 < cLine) (b1 : BltB X "len" "len") (b2 : BltT X "set" "set") (hs : noStar a = true) (ha : DE X W a ma) :
    DE X W (.Call (.Name "len" p) [.Call (.Name "set" p2) [a] [] q] [] pos) (fun ρ => (ma ρ).bind fun d => un1 .lset d) := by
  obtain ⟨ta, pa, qa⟩ := ha
  refine ⟨tSet .lset ta, ⟨fun pins s σ H Q I h => ?_⟩, fun ρ σ Hs H Q r h => tSet_read qa r h⟩
  refine Call_ (ld_blt I b1.1 b1.2.1 b1.2.2.1 (PyProof.Rows.callWith_builtin1 (PyProof.Rows.args_cons ?_ rfl) rfl rfl))
  refine Call_ (ld_blt I b2.1 b2.2.1 b2.2.2.1 (PyProof.Rows.callWith_type1 (PyProof.Rows.args_cons (thn (pa.run pins s σ H _ I h) fun v s1 ⟨x, H1, I1, r1, q1⟩ => PyProof.Rows.args_nil ?_) (star_cons hs)) (star_cons hs) rfl))
  obtain ⟨Hs, d, sub, hd, hq⟩ := q1
  exact thn (core_lset hc hu I1 r1 sub hd hq) fun u s' h' => PyProof.Rows.args_nil h'
end
end QB
/-! ### set(x) - set(y) -/
namespace QB
open PySem PySem.Spec PyProof.Rows L2
section
variable {P : Program} {w : World} {κ : Type} [DecidableEq κ] {knd : PySem.KeyKind P w κ} {A : Around} {E : Value → Shared → Prop} {s : Shared} {a b r : Addr} {L M N : List (Value × κ)}
theorem setWalk_at (R : ZV knd s.heap a L) {Q : Array (Int × Value) → Shared → Prop} (hQ : ∀ es d, es.toList.Perm (L.map (rowV knd)) → Q es { s with drawn := d }) : wpAny (model P w) A (setWalk a) Q E s := by
  obtain ⟨o, es, ep, t, ho, hx, hd, bx, er, nd, g⟩ := R
  unfold setWalk
  refine wpAny_bind (wpAny_setState_of ho hd bx.fits ?_)
  dsimp only
  refine wpAny_bind (wpAny_byText ?_)
  cases hbt : w.params.followText "set-order" with
  | true =>
    refine wp_if_pos rfl ?_
    exact wpAny_bind (wpAny_askSetting (wpAny_pure (hQ _ s.drawn (by rw [← er]; exact pick_perm _ _))))
  | false =>
    refine wp_if_neg Bool.false_ne_true ?_
    try refine wpAny_bind (wpAny_pure ?_)
    have hl : t.led = true := bx.led.resolve_left (by rw [hbt]; exact Bool.false_ne_true)
    cases hdr : (!t.plain && decide (es.size > 1)) with
    | true =>
      refine wp_if_pos hdr ?_
      exact wpAny_bind (drawOrder_at _ _ _ _ (by simp) fun ys d p => wpAny_pure (hQ _ d (by rw [← er]; simpa using p)))
    | false =>
      refine wp_if_neg (by show ¬ ((!t.plain && decide (es.size > 1)) = true); rw [hdr]; exact Bool.false_ne_true) ?_
      try refine wpAny_bind (wpAny_pure ?_)
      refine wpAny_bind (wpAny_of_eq (a := ()) ?_ (wpAny_pure (hQ es s.drawn (by rw [er]))))
      show (if (!t.led && decide (es.size > 1)) = true then unsupported "set:maker-not-led" else pure ()) = pure ()
      rw [hl] <;> rfl
theorem ZV.sc (R : ZV knd s.heap a L) : ∃ o es ep t, s.heap.get? a = some o ∧ o.data = .set es ep t ∧ t.fits es.size = true ∧ ∀ p ∈ es.toList, p.2.scannable = true := by
  obtain ⟨o, es, ep, t, ho, hx, hd, bx, er, nd, g⟩ := R
  refine ⟨o, es, ep, t, ho, hd, bx.fits, fun p hp => ?_⟩
  rw [er] at hp
  obtain ⟨q, hq, rfl⟩ := List.mem_map.mp hp
  exact (g q hq).2
theorem for_quiet {α β : Type} {M0 : Model} {st : β} {body : α → β → Sem (ForInStep β)} {Q : β → Shared → Prop} : ∀ (l : List α), (∀ p ∈ l, body p st = pure (.yield st)) → Q st s → wpAny M0 A (forIn l st body) Q E s
  | [], _, hQ => wpAny_pure hQ
  | p :: l, h, hQ => by
    rw [List.forIn_cons, h p List.mem_cons_self]
    exact wpAny_bind (wpAny_pure (for_quiet l (fun q hq => h q (List.mem_cons_of_mem _ hq)) hQ))
theorem for_same {α β : Type} {M0 : Model} {st : β} {body : α → β → Sem (ForInStep β)} : ∀ (l : List α) (Q : β → Shared → Prop), (∀ p ∈ l, ∀ Q' : ForInStep β → Shared → Prop, Q' (.yield st) s → wpAny M0 A (body p st) Q' E s) → Q st s → wpAny M0 A (forIn l st body) Q E s
  | [], _, _, hQ => wpAny_pure hQ
  | p :: l, Q, h, hQ => by
    rw [List.forIn_cons]
    exact wpAny_bind (h p List.mem_cons_self _ (for_same l Q (fun q hq => h q (List.mem_cons_of_mem _ hq)) hQ))
theorem setsQuiet_at {Q : Bool → Shared → Prop} (l : List Addr) (h : ∀ c ∈ l, ∃ L', ZV knd s.heap c L') (hQ : Q true s) : wpAny (model P w) A (setsQuiet l) Q E s := by
  unfold setsQuiet
  refine wpAny_bind (for_same l _ (fun c hc Q' hQ' => ?_) (wpAny_pure hQ))
  obtain ⟨L', z⟩ := h c hc
  obtain ⟨o, es, ep, t, ho, hd, hf, hs⟩ := z.sc
  refine wpAny_bind (wpAny_setEntries_of ho hd hf (wpAny_bind ?_))
  rw [← Array.forIn_toList]
  refine for_quiet es.toList (fun p hp => ?_) (wpAny_pure hQ')
  have := hs p hp
  obtain ⟨i, v⟩ := p
  cases v <;> first | rfl | (exact absurd this Bool.false_ne_true)
/-- what is walked of a set that nobody sees, for one that is filled -/
theorem unseen_at (R : ZV knd s.heap a L) (others : List Addr) (ho : ∀ c ∈ others, ∃ L', ZV knd s.heap c L') (rr : ZV knd s.heap r []) (hra : r ≠ a) {Q : Array (Int × Value) → Shared → Prop}
    (hQ : ∀ es h' d, es.toList.Perm (L.map (rowV knd)) → Heap.SameBut r s.heap h' → ZV knd h' r [] → Q es { s with heap := h', drawn := d }) : wpAny (model P w) A (setWalkUnseen a others (some r)) Q E s := by
  have walk : wpAny (model P w) A (setWalk a) Q E s := setWalk_at R fun es d p => hQ es s.heap d p (Heap.SameBut.refl _ _) rr
  obtain ⟨o, es, ep, t, ho', hx, hd, bx, er, nd, g⟩ := id R
  unfold setWalkUnseen
  refine wpAny_bind (wpAny_setState_of ho' hd bx.fits ?_)
  dsimp only
  refine wpAny_bind (wpAny_byText ?_)
  cases hbt : w.params.followText "set-order" with
  | true =>
    refine wp_if_pos rfl ?_
    first | exact walk | exact wpAny_bind (thn walk fun v s' h => wpAny_pure h)
  | false =>
  have hl : t.led = true := bx.led.resolve_left (by rw [hbt]; exact Bool.false_ne_true)
  by_cases hc : (false || t.led && t.plain || decide (es.size ≤ 1)) = true
  · refine wp_if_pos hc ?_
    first | exact walk | exact wpAny_bind (thn walk fun v s' h => wpAny_pure h)
  refine wp_if_neg hc ?_
  try refine wpAny_bind (wpAny_pure ?_)
  refine wpAny_bind (setsQuiet_at (knd := knd) (a :: others) (fun c hc => ?_) ?_)
  · rcases List.mem_cons.mp hc with rfl | hc
    · exact ⟨L, R⟩
    · exact ho c hc
  refine wp_if_neg (by simp) ?_
  try refine wpAny_bind (wpAny_pure ?_)
  refine wpAny_bind (wpAny_rule ?_)
  obtain ⟨of, ef, epf, tf, hof, hxf, hdf, bxf, erf, ndf, gf⟩ := id rr
  have hlf : tf.led = true := bxf.led.resolve_left (by rw [hbt]; exact Bool.false_ne_true)
  have fin : ∀ h', Heap.SameBut r s.heap h' → ZV knd h' r [] → Q es { s with heap := h' } := fun h' sb z => hQ es h' s.drawn (by rw [er]) sb z
  refine wpAny_bind (wpAny_setState_of hof hdf bxf.fits ?_)
  dsimp only
  split
  · refine wpAny_bind (wpAny_storeSet_of hof hdf ?_ (fits_of_scanBound bxf.few))
    refine wpAny_pure (fin _ (Heap.SameBut.update s.heap r _) ?_)
    exact ⟨_, ef, _, _, store_at hof hdf, hxf, rfl, ⟨bxf.fits, bxf.few, bxf.ris, .inr (by show (tf.led && t.led) = true; rw [hlf, hl]; rfl)⟩, erf, ndf, fun p hp => nomatch hp⟩
  · exact wpAny_pure (fin s.heap (Heap.SameBut.refl _ _) rr)
theorem ZV.same (R : ZV knd s.heap a L) {h' : Heap} (sb : Heap.SameBut r s.heap h') (h : a ≠ r) : ZV knd h' a L := by
  obtain ⟨o, es, ep, t, ho, hx, hd, bx, er, nd, g⟩ := R
  exact ⟨o, es, ep, t, sb.extBut _ _ h ho, hx, hd, bx, er, nd, fun p hp => g p hp⟩
theorem find_at (R : ZV knd s.heap b M) {x : Value} {k : κ} (hk : isV knd s.heap x k) {Q : Option Nat → Shared → Prop} (hQ : ∀ q : Option Nat, q.isSome = decide (k ∈ M.map (·.2)) → Q q s) : wpAny (model P w) A (setFind b x (knd.hash k)) Q E s := by
  obtain ⟨o, es, ep, t, ho, hx, hd, bx, er, nd, g⟩ := R
  refine PySem.W.setFind_any (S := fun k => decide (k ∈ M.map (·.2))) hk.1 hk.2 ho hd (rows_elems er g) (fun k' => ?_) bx.few bx.fits hQ
  rw [decide_eq_true_eq, er]
  constructor
  · intro z
    obtain ⟨p, hp, rfl⟩ := List.mem_map.mp z
    exact ⟨_, List.mem_map.mpr ⟨p, hp, rfl⟩, (g p hp).1⟩
  · rintro ⟨e, he, q⟩
    obtain ⟨p, hp, rfl⟩ := List.mem_map.mp he
    rw [knd.inj p.1 k' p.2 q (g p hp).1]
    exact List.mem_map.mpr ⟨p, hp, rfl⟩
theorem for_inv {α β : Type} {M0 : Model} {st : β} {body : α → β → Sem (ForInStep β)} {Q : β → Shared → Prop} (J : List α → Shared → Prop) (step : ∀ p l s, J (p :: l) s → ∀ Q' : ForInStep β → Shared → Prop, (∀ s', J l s' → Q' (.yield st) s') → wpAny M0 A (body p st) Q' E s) (fin : ∀ s, J [] s → Q st s) :
    ∀ (l : List α) (s : Shared), J l s → wpAny M0 A (forIn l st body) Q E s
  | [], s, h => wpAny_pure (fin s h)
  | p :: l, s, h => by
    rw [List.forIn_cons]
    exact wpAny_bind (step p l s h _ fun s' h' => for_inv J step fin l s' h')
theorem isAnySet_at (hT : s.TypeIs (.ref b) "set") {Q : Bool → Shared → Prop} (hQ : Q true s) : wpAny (model P w) A (Builtin.Frozenset.isAnySet (.ref b)) Q E s := by
  unfold Builtin.Frozenset.isAnySet
  exact wpAny_bind (wpAny_isInstance hT sub_set_self (wpAny_pure hQ))
theorem new_zv (h : Heap) : ZV knd (h.push (frO w)) h.objs.size [] := (bagV knd).new (Heap.get?_push_size _ rfl)
theorem unchanged_at {nm : String} {o : Obj} {es : Array (Int × Value)} {ep : Nat} {t : SetTable} (ho : s.heap.get? a = some o) (hd : o.data = .set es ep t) (hf : t.fits es.size = true) {Q : Unit → Shared → Prop} (hQ : Q () s) : wpAny (model P w) A (Builtin.Frozenset.unchanged nm a ep) Q E s := by
  unfold Builtin.Frozenset.unchanged
  refine wpAny_bind (wpAny_setEpoch_of ho hd hf ?_)
  refine wp_if_neg (by simp) ?_
  exact wpAny_pure hQ
theorem difference_at {nm : String} (Ra : ZV knd s.heap a L) (Rb : ZV knd s.heap b M) (hab : a ≠ b) (hL : L.length / 4 ≤ M.length) {Q : Value → Shared → Prop}
    (hQ : ∀ h' d r N, N.Perm (L.filter fun p => !decide (p.2 ∈ M.map (·.2))) → ZV knd h' r N → Kept s.heap h' → s.heap.objs.size ≤ r → Q (.ref r) { s with heap := h', drawn := d }) : wpAny (model P w) A (Builtin.Frozenset.difference nm a (.ref b)) Q E s := by
  obtain ⟨oa, ea, epa, ta, hoa, hxa, hda, bxa, era, nda, ga⟩ := id Ra
  obtain ⟨ob, eb, epb, tb, hob, hxb, hdb, bxb, erb, ndb, gb⟩ := id Rb
  have hTa : s.TypeIs (.ref a) "set" := ⟨_, hoa, hxa.1⟩
  have hTb : s.TypeIs (.ref b) "set" := ⟨_, hob, hxb.1⟩
  unfold Builtin.Frozenset.difference
  dsimp only
  refine wpAny_bind (isAnySet_at hTb ?_)
  refine wp_if_neg (by simp) ?_
  refine wpAny_bind (wpAny_pure ?_)
  refine wp_if_neg (by simp) ?_
  refine wp_if_pos rfl ?_
  refine wpAny_bind (m := Builtin.Frozenset.sizeOf b) (wpAny_bind (wpAny_setEntries_of hob hdb bxb.fits (wpAny_pure ?_)))
  refine wpAny_bind (m := Builtin.Frozenset.sizeOf a) (wpAny_bind (wpAny_setEntries_of hoa hda bxa.fits (wpAny_pure ?_)))
  refine wp_if_neg (by rw [rows_len era, rows_len erb]; omega) ?_
  try refine wpAny_bind (wpAny_pure ?_)
  refine wpAny_bind (m := Builtin.Frozenset.baseOf a) (wpAny_bind (wpAny_isInstance hTa sub_set_self (wpAny_pure ?_)))
  refine wpAny_bind (PpSet.newSet_ok ?_)
  refine wpAny_bind (wpAny_pure ?_)
  have kp : Kept s.heap (s.heap.push (frO w)) := fun b o e => Heap.get?_push_of_some _ e
  have za : ZV knd (s.heap.push (frO w)) a L := ⟨oa, ea, epa, ta, kp _ _ hoa, hxa, hda, bxa, era, nda, fun p hp => ga p hp⟩
  have zb : ZV knd (s.heap.push (frO w)) b M := ⟨ob, eb, epb, tb, kp _ _ hob, hxb, hdb, bxb, erb, ndb, fun p hp => gb p hp⟩
  have zr : ZV knd (s.heap.push (frO w)) s.heap.objs.size [] := new_zv s.heap
  have nra : s.heap.objs.size ≠ a := (Nat.ne_of_lt (Heap.lt_size hoa)).symm
  have nrb : s.heap.objs.size ≠ b := (Nat.ne_of_lt (Heap.lt_size hob)).symm
  refine wpAny_bind (wpAny_setEpoch_of (s := { s with heap := s.heap.push (frO w) }) (kp _ _ hoa) hda bxa.fits ?_)
  refine wpAny_bind (wpAny_holding ?_)
  refine wpAny_bind (unseen_at (s := { s with heap := s.heap.push (frO w) }) (knd := knd) za [b, s.heap.objs.size] (fun c hc => ?_) zr nra fun es h1 d pm sb z1 => ?_)
  · simp only [List.mem_cons, List.not_mem_nil, or_false] at hc
    rcases hc with rfl | rfl
    · exact ⟨_, zb⟩
    · exact ⟨_, zr⟩
  obtain ⟨T, eT, pT⟩ := perm_unmap (rowV knd) pm L rfl
  have ndT : (T.map (·.2)).Nodup := (pT.map (·.2)).nodup_iff.mpr nda
  have gT : ∀ p ∈ T, ∀ h, isV knd h p.1 p.2 := fun p hp h => ga p (pT.mem_iff.mp hp)
  rw [← Array.forIn_toList, eT]
  have hlen : T.length + 1 < scanBound ∨ True := .inr trivial
  refine wpAny_bind (for_inv (fun l s' => ∃ done ls h', T = done ++ ls ∧ l = ls.map (rowV knd) ∧ s' = { s with heap := h', drawn := d } ∧ Heap.SameBut s.heap.objs.size (s.heap.push (frO w)) h' ∧ ∃ N, ZV knd h' s.heap.objs.size N ∧ N.Perm (done.filter fun p => !decide (p.2 ∈ M.map (·.2)))) ?_ ?_ _ _ ⟨[], T, h1, rfl, rfl, rfl, sb, [], z1, List.Perm.refl _⟩)
  · rintro q l s' ⟨done, ls, h', eq, el, rfl, sb', N, zN, pN⟩ Q' hQ'
    cases ls with
    | nil => cases el
    | cons u ls =>
    cases el
    have hu : u ∈ T := by rw [eq]; simp
    have zb' : ZV knd h' b M := ZV.same (s := { s with heap := s.heap.push (frO w) }) zb sb' nrb.symm
    have za' : h'.get? a = some oa := sb'.extBut _ _ nra.symm (kp _ _ hoa)
    refine wpAny_bind (wpAny_holding ?_)
    refine wp_if_pos rfl ?_
    refine wpAny_bind (find_at (s := { s with heap := h', drawn := d }) (knd := knd) (k := u.2) zb' (gT u hu _) fun q hq => ?_)
    refine wpAny_bind (wpAny_pure ?_)
    by_cases hm : u.2 ∈ M.map (·.2)
    · rw [hq, decide_eq_true hm]
      refine wp_if_neg (by simp) (wpAny_pure ?_)
      refine wpAny_bind (unchanged_at (s := { s with heap := h', drawn := d }) za' hda bxa.fits (wpAny_pure (hQ' _ ⟨done ++ [u], ls, h', by rw [eq]; simp, rfl, rfl, sb', N, zN, ?_⟩)))
      rw [List.filter_append, List.filter_cons, decide_eq_true hm]
      simpa using pN
    · rw [hq, decide_eq_false hm]
      refine wp_if_pos (by simp) ?_
      have hno : u.2 ∉ N.map (·.2) := fun z => by
        have z2 := (pN.map (·.2)).mem_iff.mp z
        obtain ⟨p, hp, e⟩ := List.mem_map.mp z2
        have hp := (List.mem_filter.mp hp).1
        rw [eq, List.map_append, List.map_cons] at ndT
        have := (List.nodup_append.mp ndT).2.2 p.2 (List.mem_map.mpr ⟨p, hp, rfl⟩) u.2 List.mem_cons_self
        exact this e
      have few : N.length + 1 < scanBound := by
        have h1 := pN.length_eq
        have h2 := List.length_filter_le (fun p : Value × κ => !decide (p.2 ∈ M.map (·.2))) done
        have h3 : T.length = done.length + (ls.length + 1) := by rw [eq]; simp
        have h4 := pT.length_eq
        have h5 := bxa.few
        rw [rows_len era] at h5
        omega
      refine wpAny_bind (addV (s := { s with heap := h', drawn := d }) (knd := knd) zN (gT u hu _) few fun bb h2 N2 sb2 z2 c1 c2 => wpAny_pure ?_)
      refine wpAny_bind (unchanged_at (s := { s with heap := h2, drawn := d }) (sb2.extBut _ _ nra.symm za') hda bxa.fits (wpAny_pure (hQ' _ ⟨done ++ [u], ls, h2, by rw [eq]; simp, rfl, rfl, sb'.trans sb2, N2, z2, ?_⟩)))
      rw [List.filter_append, List.filter_cons, decide_eq_false hm]
      exact (c2 hno).trans ((pN.cons u).trans (List.perm_append_singleton u _).symm)
  · rintro s' ⟨done, ls, h', eq, el, rfl, sb', N, zN, pN⟩
    have hls : ls = [] := by
      cases ls with
      | nil => rfl
      | cons => cases el
    rw [hls, List.append_nil] at eq
    rw [← eq] at pN
    refine wpAny_pure (wpAny_pure (hQ h' d s.heap.objs.size N (pN.trans (pT.filter _)) zN (fun c o e => ?_) (Nat.le_refl _)))
    exact sb'.extBut _ _ (Nat.ne_of_lt (Heap.lt_size e)) (kp _ _ e)
end
end QB
/-! ### a set of six copied: a table of sixteen slots -/
namespace QB
open PySem PySem.Spec PyProof.Rows L2
def stp : Nat → Nat → Nat → Nat × Nat
  | 0, i, b => (i, b)
  | n + 1, i, b => stp n (SetTable.leap 15 i b).1 (SetTable.leap 15 i b).2
theorem free_none (owner : Array (Option Nat)) : ∀ (f i b : Nat), SetTable.layClean.free 15 owner f i b = none → ∀ t, t < f → (oAt owner (stp t i b).1).isNone = false
  | 0, _, _, _, t, ht => absurd ht (Nat.not_lt_zero _)
  | f + 1, i, b, h, t, ht => by
    rw [free_succ] at h
    cases hq : (List.range (SetTable.runEnd 15 i + 1 - i)).find? (fun k => (oAt owner (i + k)).isNone) with
    | some k => rw [hq] at h; cases h
    | none =>
      rw [hq] at h
      have h : SetTable.layClean.free 15 owner f (SetTable.leap 15 i b).1 (SetTable.leap 15 i b).2 = none := h
      cases t with
      | zero =>
        have := List.find?_eq_none.mp hq 0 (List.mem_range.mpr (by
          unfold SetTable.runEnd
          split <;> omega))
        have this : ¬ (oAt owner (i + 0)).isNone = true := this
        exact Bool.eq_false_iff.mpr this
      | succ t => exact free_none owner f _ _ h t (by omega)
theorem free_some (owner : Array (Option Nat)) : ∀ (f i b j : Nat), SetTable.layClean.free 15 owner f i b = some j → (oAt owner j).isNone = true
  | 0, _, _, _, h => by cases h
  | f + 1, i, b, j, h => by
    rw [free_succ] at h
    cases hq : (List.range (SetTable.runEnd 15 i + 1 - i)).find? (fun k => (oAt owner (i + k)).isNone) with
    | some k =>
      rw [hq] at h
      have h : some (i + k) = some j := h
      cases h
      have := List.find?_some (p := fun k => (oAt owner (i + k)).isNone) hq
      exact this
    | none =>
      rw [hq] at h
      exact free_some owner f _ _ j h
theorem stp_bits : ∀ (t i b : Nat), (stp t i b).2 = b / 32 ^ t
  | 0, i, b => by simp [stp]
  | t + 1, i, b => by
    show (stp t (SetTable.leap 15 i b).1 (SetTable.leap 15 i b).2).2 = _
    rw [stp_bits t]
    show b / 32 / 32 ^ t = _
    rw [Nat.div_div_eq_div_mul, Nat.pow_succ, Nat.mul_comm]
theorem stp_add : ∀ (t u i b : Nat), stp (t + u) i b = stp u (stp t i b).1 (stp t i b).2
  | 0, u, i, b => by rw [Nat.zero_add]; rfl
  | t + 1, u, i, b => by
    rw [show t + 1 + u = (t + u) + 1 by omega]
    exact stp_add t u _ _
def cyc : Nat → Nat → Nat
  | 0, i => i
  | n + 1, i => cyc n ((i * 5 + 1) % 16)
theorem stp_cyc : ∀ (u i : Nat), (stp u i 0).1 = cyc u i
  | 0, i => rfl
  | u + 1, i => by
    show (stp u ((i * 5 + 1 + 0 / 32) % 16) (0 / 32)).1 = cyc u ((i * 5 + 1) % 16)
    exact stp_cyc u _
theorem cyc_all : ∀ x : Fin 16, ∀ j : Fin 16, ∃ k : Fin 16, cyc k.val x.val = j.val := by decide +kernel
theorem stp_lt : ∀ (t i b : Nat), i < 16 → (stp t i b).1 < 16
  | 0, i, b, h => h
  | t + 1, i, b, h => stp_lt t _ _ (Nat.mod_lt _ (by decide))
theorem bits_lt (h : Int) : SetTable.bits h < 2 ^ 64 := by
  unfold SetTable.bits
  omega
theorem free_ok {owner : Array (Option Nat)} {j0 : Nat} (h0 : j0 < 16) (hn : oAt owner j0 = none) (h : Int) : ∃ j, SetTable.layClean.free 15 owner (SetTable.turns 15) (SetTable.bits h % (15 + 1)) (SetTable.bits h) = some j ∧ oAt owner j = none := by
  cases e : SetTable.layClean.free 15 owner (SetTable.turns 15) (SetTable.bits h % (15 + 1)) (SetTable.bits h) with
  | some j => exact ⟨j, rfl, Option.isNone_iff_eq_none.mp (free_some _ _ _ _ _ e)⟩
  | none =>
    have hb : SetTable.bits h / 32 ^ 13 = 0 := Nat.div_eq_of_lt (Nat.lt_of_lt_of_le (bits_lt h) (by decide))
    have hlt := stp_lt 13 (SetTable.bits h % (15 + 1)) (SetTable.bits h) (Nat.mod_lt _ (by decide))
    obtain ⟨k, hk⟩ := cyc_all ⟨_, hlt⟩ ⟨j0, h0⟩
    have := free_none owner _ _ _ e (13 + k.val) (by
      have := k.isLt
      show 13 + k.val < 30
      omega)
    rw [stp_add, stp_bits, hb, stp_cyc, hk, hn] at this
    cases this
structure Ow (k : Nat) (owner : Array (Option Nat)) : Prop where
  sz : owner.size = 16
  js : ∃ js : List Nat, js.length = k ∧ (∀ (i j : Nat), js[i]? = some j → j < 16 ∧ oAt owner j = some i) ∧ ∀ j, j < 16 → j ∉ js → oAt owner j = none
theorem Ow.init : Ow 0 (Array.replicate 16 none) := ⟨by simp, [], rfl, fun i j e => by simp at e, fun j hj _ => by
  show (Array.replicate 16 none).getD j (some 0) = none
  rw [Array.getD_eq_getD_getElem?, Array.getElem?_eq_getElem (by simpa using hj)]
  simp⟩
theorem Ow.step {k : Nat} {owner : Array (Option Nat)} (W : Ow k owner) (hk : k < 16) (h : Int) : ∃ j, SetTable.layClean.free 15 owner (SetTable.turns 15) (SetTable.bits h % (15 + 1)) (SetTable.bits h) = some j ∧ Ow (k + 1) (owner.setIfInBounds j (some k)) := by
  obtain ⟨js, h1, h2, h3⟩ := W.js
  obtain ⟨j0, hj0, hn0⟩ : ∃ j0, j0 < 16 ∧ j0 ∉ js := by
    apply Classical.byContradiction
    intro z
    have := L2.nat_nodup_len (List.range 16) js List.nodup_range fun x hx => by
      apply Classical.byContradiction
      intro q
      exact z ⟨x, List.mem_range.mp hx, q⟩
    rw [List.length_range] at this
    omega
  obtain ⟨j, e, hj⟩ := free_ok hj0 (h3 j0 hj0 hn0) h
  have hlt : j < owner.size := by
    apply Classical.byContradiction
    intro z
    have : owner.getD j (some 0) = none := hj
    rw [Array.getD_eq_getD_getElem?, Array.getElem?_eq_none (by omega)] at this
    cases this
  have hsz := W.sz
  have njs : j ∉ js := fun z => by
    obtain ⟨i, hi⟩ := List.getElem?_of_mem z
    rw [(h2 i j hi).2] at hj
    cases hj
  have at_ : ∀ y, y < 16 → oAt (owner.setIfInBounds j (some k)) y = if j = y then some k else oAt owner y := fun y hy => by
    show (owner.setIfInBounds j (some k)).getD y (some 0) = if j = y then some k else owner.getD y (some 0)
    rw [Array.getD_eq_getD_getElem?, Array.getD_eq_getD_getElem?, Array.getElem?_setIfInBounds]
    split
    · first | rfl | (rw [if_pos hlt]; rfl)
    · rfl
  refine ⟨j, e, by rw [Array.size_setIfInBounds]; exact hsz, js ++ [j], by rw [List.length_append, h1]; rfl, fun i y hy => ?_, fun y hy hn => ?_⟩
  · by_cases hi : i < js.length
    · rw [List.getElem?_append_left hi] at hy
      obtain ⟨a1, a2⟩ := h2 i y hy
      refine ⟨a1, ?_⟩
      rw [at_ y a1, if_neg fun z => njs (by rw [z]; exact List.mem_of_getElem? hy)]
      exact a2
    · rw [List.getElem?_append_right (by omega)] at hy
      have hi0 : i - js.length = 0 := by
        have := (List.getElem?_eq_some_iff.mp hy).1
        simp at this
        omega
      rw [hi0] at hy
      have hy : j = y := by simpa using hy
      subst hy
      refine ⟨by omega, ?_⟩
      rw [at_ j (by omega), if_pos rfl]
      congr 1
      omega
  · rw [at_ y hy, if_neg fun z => hn (by rw [z]; simp)]
    exact h3 y hy fun z => hn (List.mem_append_left _ z)
theorem fold15 : ∀ (rest : List Int) (k : Nat) (owner : Array (Option Nat)), Ow k owner → k + rest.length < 16 → ∃ owner', rest.foldl (stepF 15) (some (owner, k)) = some (owner', k + rest.length) ∧ Ow (k + rest.length) owner'
  | [], k, owner, W, _ => ⟨owner, rfl, W⟩
  | h :: rest, k, owner, W, hl => by
    rw [List.length_cons] at hl
    obtain ⟨j, e, W'⟩ := W.step (by omega) h
    obtain ⟨owner', f, W2⟩ := fold15 rest (k + 1) _ W' (by omega)
    refine ⟨owner', ?_, ?_⟩
    · rw [List.foldl_cons, stepF_some e, f]
      congr 2
      rw [List.length_cons]; omega
    · rw [List.length_cons, show k + (rest.length + 1) = k + 1 + rest.length by omega]
      exact W2
theorem lay15 {hs : Array Int} (hn : hs.size < 16) : ∃ owner, SetTable.layClean 15 hs = some owner ∧ Ow hs.size owner := by
  obtain ⟨owner, f, W⟩ := fold15 hs.toList 0 _ Ow.init (by rw [Array.length_toList]; omega)
  rw [Nat.zero_add, Array.length_toList] at W
  refine ⟨owner, ?_, W⟩
  rw [layClean_eq]
  have f' : hs.toList.foldl (stepF 15) (some (Array.replicate (15 + 1) none, 0)) = some (owner, 0 + hs.toList.length) := f
  rw [f']; rfl
theorem laid15 {hs : Array Int} (hn : hs.size < 16) (fg mv : Nat) (ld pl : Bool) : ∃ t order, SetTable.laid 15 fg mv ld pl hs = some (t, order) ∧ order.toList.Perm (List.range hs.size) ∧ Ris t.place.toList ∧ t.place.size = hs.size ∧ t.mask = 15 ∧ t.led = ld ∧ t.dummies = #[] := by
  obtain ⟨owner, e, W⟩ := lay15 hn
  obtain ⟨js, j1, j2, j3⟩ := W.js
  have sz : owner.size = 15 + 1 := W.sz
  have ris := ris_live (fun j => owner.getD j none) (List.range (15 + 1)) (by
    unfold Ris
    first | exact List.pairwise_lt_range | exact List.pairwise_lt_range _)
  have r1 : Ris ((liveOf 15 owner).map (·.1)) := ris.1
  have r2 : ∀ x ∈ (liveOf 15 owner).map (·.1), x ∈ List.range (15 + 1) := ris.2
  have nd : ((liveOf 15 owner).map (·.1)).Nodup := List.Pairwise.imp (fun h => Nat.ne_of_lt h) r1
  have all : ∀ k, k < hs.size → k ∈ (liveOf 15 owner).map (·.2) := fun k hk => by
    have hk' : k < js.length := by omega
    obtain ⟨b1, b2⟩ := j2 k _ (List.getElem?_eq_getElem hk')
    exact List.mem_map.mpr ⟨(js[k], k), (mem_live sz).2 ⟨by omega, b2⟩, rfl⟩
  have hlen : (liveOf 15 owner).length = hs.size := by
    have a := L2.nat_nodup_len ((liveOf 15 owner).map (·.1)) js nd fun x hx => by
      obtain ⟨⟨y, k⟩, hq, eq1⟩ := List.mem_map.mp hx
      have ey : y = x := eq1
      subst ey
      obtain ⟨b1, b2⟩ := (mem_live sz).1 hq
      apply Classical.byContradiction
      intro z
      rw [j3 y (by omega) z] at b2
      cases b2
    have b := L2.nat_nodup_len (List.range hs.size) ((liveOf 15 owner).map (·.2)) List.nodup_range fun k hk => all k (List.mem_range.mp hk)
    rw [List.length_map] at a
    rw [List.length_map, List.length_range] at b
    omega
  refine ⟨{ mask := 15, place := ((liveOf 15 owner).map (·.1)).toArray, dummies := #[], finger := fg, led := ld, moves := mv, plain := pl }, ((liveOf 15 owner).map (·.2)).toArray, ?_, ?_, r1, ?_, rfl, rfl, rfl⟩
  · unfold SetTable.laid
    rw [e]; rfl
  · exact perm_range hs.size _ (by rw [List.length_map]; exact hlen) all
  · show ((liveOf 15 owner).map (·.1)).toArray.size = hs.size
    rw [List.size_toArray, List.length_map]; exact hlen
section
variable {P : Program} {w : World} {κ : Type} [DecidableEq κ] {knd : PySem.KeyKind P w κ} {A : Around} {E : Value → Shared → Prop} {s : Shared} {a b r : Addr} {L M N : List (Value × κ)}
theorem size_12 : SetTable.sizeAbove 12 = 16 := by decide +kernel
/-- room for six in a new set -/
theorem room6 {o : Obj} {ep : Nat} {t : SetTable} (ho : s.heap.get? r = some o) (hd : o.data = .set #[] ep t) (hm : t.mask = 7) (hf : t.fill = 0) (hp : t.place = #[]) {Q : Unit → Shared → Prop}
    (hQ : ∀ t', t'.mask = 15 → t'.fill = 0 → t'.place = #[] → t'.led = t.led → t'.dummies = #[] → Q () { s with heap := s.heap.update r (Obj.putSet #[] t') }) : wpAny (model P w) A (setRoomFor r 6) Q E s := by
  have fits : t.fits (#[] : Array (Int × Value)).size = true := by
    unfold SetTable.fits
    rw [hp, hf]; simp
  unfold setRoomFor
  refine wpAny_bind (wpAny_setState_of ho hd fits ?_)
  dsimp only
  have hr : t.roomFor 6 = some 12 := by
    unfold SetTable.roomFor
    rw [hf, hm, hp]; rfl
  rw [hr]
  dsimp only
  unfold setRelay
  refine wpAny_bind (wpAny_setState_of ho hd fits ?_)
  dsimp only
  refine wp_if_neg (by rw [size_12, sizeLine_eq]; decide) ?_
  obtain ⟨t', order, e, pm, ris, psz, m15, led, dm⟩ := laid15 (hs := #[]) (by decide) t.finger (t.movedTo 15) t.led t.plain
  have er : t.relaid ((#[] : Array (Int × Value)).map (·.1)) 12 = some (t', order) := by
    have e0 : (#[] : Array (Int × Value)).map (·.1) = #[] := by simp
    unfold SetTable.relaid
    rw [size_12, e0]
    exact e
  have ho0 : order = #[] := by
    have := pm.length_eq
    simp at this
    exact Array.eq_empty_of_size_eq_zero (by simpa using this)
  rw [er, ho0]
  have pl0 : t'.place = #[] := Array.eq_empty_of_size_eq_zero (by simpa using psz)
  refine wpAny_bind (wpAny_of_eq (a := ((#[] : Array (Int × Value)), t')) rfl ?_)
  dsimp only
  exact wpAny_storeSet_of ho hd (hQ t' m15 (by unfold SetTable.fill; rw [pl0, dm]; rfl) pl0 led dm) (fits_of_scanBound (by decide))
theorem pick6 {es : Array (Int × Value)} {order : Array Nat} (pm : order.toList.Perm (List.range es.size)) : (order.filterMap (es[·]?)).toList.Perm es.toList := by
  rw [Array.toList_filterMap]
  refine (pm.filterMap _).trans ?_
  have : ∀ l : List (Int × Value), (List.range l.length).filterMap (fun k => l[k]?) = l := by
    intro l
    induction l with
    | nil => rfl
    | cons a l ih =>
      rw [List.length_cons, List.range_succ_eq_map, List.filterMap_cons, List.filterMap_map]
      show a :: (List.range l.length).filterMap (fun k => l[k]?) = _
      rw [ih]
  have h := this es.toList
  rw [Array.length_toList] at h
  simp only [Array.getElem?_toList] at h
  rw [h]
theorem copy_at (Ra : ZV knd s.heap a L) (h6 : L.length = 6) {Q : Value → Shared → Prop}
    (hQ : ∀ h' N o es ep t, N.Perm L → h'.get? s.heap.objs.size = some o → o.ExactSet → o.data = .set es ep t → t.fits es.size = true → t.dummies = #[] → ZV knd h' s.heap.objs.size N → Kept s.heap h' → Q (.ref s.heap.objs.size) { s with heap := h' }) : wpAny (model P w) A (Builtin.Frozenset.copyOf a) Q E s := by
  obtain ⟨oa, ea, epa, ta, hoa, hxa, hda, bxa, era, nda, ga⟩ := id Ra
  have hTa : s.TypeIs (.ref a) "set" := ⟨_, hoa, hxa.1⟩
  have hsz : ea.size = 6 := by rw [rows_len era, h6]
  unfold Builtin.Frozenset.copyOf
  refine wpAny_bind (m := Builtin.Frozenset.baseOf a) (wpAny_bind (wpAny_isInstance hTa sub_set_self (wpAny_pure ?_)))
  refine wpAny_bind (PpSet.newSet_ok ?_)
  refine wpAny_bind (wpAny_pure ?_)
  have kp : Kept s.heap (s.heap.push (frO w)) := fun b o e => Heap.get?_push_of_some _ e
  have nra : s.heap.objs.size ≠ a := (Nat.ne_of_lt (Heap.lt_size hoa)).symm
  have hr : (s.heap.push (frO w)).get? s.heap.objs.size = some (frO w) := Heap.get?_push_size _ rfl
  refine wpAny_bind ?_
  unfold setMerge
  refine wp_if_neg (by simpa using nra) ?_
  refine wpAny_bind (wpAny_setState_of (s := { s with heap := s.heap.push (frO w) }) (kp _ _ hoa) hda bxa.fits ?_)
  dsimp only
  refine wp_if_neg (by rw [Array.isEmpty_iff]; intro z; rw [z] at hsz; cases hsz) ?_
  rw [hsz]
  refine wpAny_bind (room6 (s := { s with heap := s.heap.push (frO w) }) hr rfl rfl rfl rfl fun t1 m1 f1 p1 l1 d1 => ?_)
  have hr1 := store_at (es' := #[]) (t' := t1) hr rfl
  have sb1 := Heap.SameBut.update (s.heap.push (frO w)) s.heap.objs.size (Obj.putSet #[] t1)
  have fits1 : t1.fits (#[] : Array (Int × Value)).size = true := by
    unfold SetTable.fits
    rw [p1, f1]; simp
  refine wpAny_bind (wpAny_setState_of hr1 rfl fits1 ?_)
  dsimp only
  have ledx : w.params.followText "set-order" = true ∨ (t1.led && ta.led) = true := by
    cases hbt : w.params.followText "set-order" with
    | true => exact .inl rfl
    | false =>
      refine .inr ?_
      rw [l1, bxa.led.resolve_left (by rw [hbt]; exact Bool.false_ne_true)]
      show (!w.params.followText "set-order" && true) = true
      rw [hbt]; rfl
  have fin : ∀ (es1 : Array (Int × Value)) (t2 : SetTable), es1.toList.Perm ea.toList → t2.fits es1.size = true → Ris t2.place.toList → (w.params.followText "set-order" = true ∨ t2.led = true) → t2.dummies = #[] →
      wpAny (model P w) A (storeSet s.heap.objs.size es1 t2) (fun _ s' => wpAny (model P w) A (pure (Value.ref s.heap.objs.size)) Q E s') E { s with heap := (s.heap.push (frO w)).update s.heap.objs.size (Obj.putSet #[] t1) } := fun es1 t2 pm ft rs ld dm => by
    obtain ⟨N, e1, pN⟩ := perm_unmap (rowV knd) pm L era
    have few : es1.size < scanBound := by
      have h1 := pm.length_eq
      rw [Array.length_toList, Array.length_toList] at h1
      rw [h1]; exact bxa.few
    refine wpAny_storeSet_of hr1 rfl (wpAny_pure ?_) (fits_of_scanBound few)
    have hr2 := store_at (es' := es1) (t' := t2) hr1 rfl
    have sb2 := Heap.SameBut.update ((s.heap.push (frO w)).update s.heap.objs.size (Obj.putSet #[] t1)) s.heap.objs.size (Obj.putSet es1 t2)
    refine hQ _ N _ es1 _ t2 pN hr2 ⟨rfl, rfl, rfl⟩ rfl ft dm ⟨_, es1, _, t2, hr2, ⟨rfl, rfl, rfl⟩, rfl, ⟨ft, few, rs, ld⟩, e1, (pN.map (·.2)).nodup_iff.mpr nda, fun p hp => ga p (pN.mem_iff.mp hp)⟩ fun c o e => ?_
    exact (sb1.trans sb2).extBut _ _ (Nat.ne_of_lt (Heap.lt_size e)) (kp _ _ e)
  have hroad : t1.road ta = if (t1.mask == ta.mask && ta.dummies.isEmpty) = true then .slotForSlot else .clean := by
    unfold SetTable.road
    rw [f1]; rfl
  rw [hroad]
  by_cases hc : (t1.mask == ta.mask && ta.dummies.isEmpty) = true
  · rw [if_pos hc]
    dsimp only
    rw [Bool.and_eq_true] at hc
    exact fin _ _ (List.Perm.refl _) bxa.fits bxa.ris ledx (Array.isEmpty_iff.mp hc.2)
  · rw [if_neg hc, m1]
    dsimp only
    obtain ⟨t2, order, e, pm, rs, psz, m15, ld, dm⟩ := laid15 (hs := ea.map (·.1)) (by rw [Array.size_map, hsz]; decide) t1.finger t1.moves (t1.led && ta.led) (t1.plain && ta.plain)
    rw [e]
    rw [Array.size_map] at pm psz
    have p6 := pick6 pm
    have hz : (order.filterMap (ea[·]?)).size = ea.size := by
      rw [← Array.length_toList, p6.length_eq, Array.length_toList]
    refine wpAny_bind (wpAny_of_eq (a := (order.filterMap (ea[·]?), t2)) ?_ ?_)
    · show (if ((order.filterMap (ea[·]?)).size != ea.size) = true then _ else _) = _
      rw [hz]
      simp
    · dsimp only
      refine fin _ _ p6 ?_ rs (by rw [ld]; exact ledx) dm
      unfold SetTable.fits SetTable.fill
      rw [hz, psz, dm, m15, hsz]; rfl
/-- set(x) - set(), x of six signs -/
theorem difference_nil {nm : String} (Ra : ZV knd s.heap a L) (Rb : ZV knd s.heap b []) (hab : a ≠ b) (h6 : L.length = 6) {Q : Value → Shared → Prop}
    (hQ : ∀ h' d r N, N.Perm L → ZV knd h' r N → Kept s.heap h' → s.heap.objs.size ≤ r → Q (.ref r) { s with heap := h', drawn := d }) : wpAny (model P w) A (Builtin.Frozenset.difference nm a (.ref b)) Q E s := by
  obtain ⟨oa, ea, epa, ta, hoa, hxa, hda, bxa, era, nda, ga⟩ := id Ra
  obtain ⟨ob, eb, epb, tb, hob, hxb, hdb, bxb, erb, ndb, gb⟩ := id Rb
  have hTb : s.TypeIs (.ref b) "set" := ⟨_, hob, hxb.1⟩
  unfold Builtin.Frozenset.difference
  dsimp only
  refine wpAny_bind (isAnySet_at hTb ?_)
  refine wp_if_neg (by simp) ?_
  refine wpAny_bind (wpAny_pure ?_)
  refine wp_if_neg (by simp) ?_
  refine wp_if_pos rfl ?_
  refine wpAny_bind (m := Builtin.Frozenset.sizeOf b) (wpAny_bind (wpAny_setEntries_of hob hdb bxb.fits (wpAny_pure ?_)))
  refine wpAny_bind (m := Builtin.Frozenset.sizeOf a) (wpAny_bind (wpAny_setEntries_of hoa hda bxa.fits (wpAny_pure ?_)))
  refine wp_if_pos (by rw [rows_len era, rows_len erb, h6]; show 6 / 4 > 0; decide) ?_
  refine wpAny_bind (wpAny_rule ?_)
  refine wpAny_bind (copy_at Ra h6 fun h' N o es ep t pN ho hx hd ft dm zN kp => ?_)
  refine wpAny_bind (wpAny_pure ?_)
  refine wpAny_bind (wpAny_holding ?_)
  have nrb : s.heap.objs.size ≠ b := (Nat.ne_of_lt (Heap.lt_size hob)).symm
  unfold Builtin.Frozenset.differenceUpdate
  refine wp_if_neg (by
    show ¬ ((Value.ref b == Value.ref s.heap.objs.size) = true)
    intro z
    have := eq_of_beq z
    cases this
    exact nrb rfl) ?_
  dsimp only
  have hob' := kp _ _ hob
  have zb' : ZV knd h' b [] := ⟨ob, eb, epb, tb, hob', hxb, hdb, bxb, erb, ndb, fun p hp => nomatch hp⟩
  refine wpAny_bind (isAnySet_at (s := { s with heap := h' }) ⟨_, hob', hxb.1⟩ ?_)
  refine wp_if_pos rfl ?_
  refine wpAny_bind (wpAny_pure ?_)
  refine wpAny_bind (m := Builtin.Frozenset.sizeOf b) (wpAny_bind (wpAny_setEntries_of (s := { s with heap := h' }) hob' hdb bxb.fits (wpAny_pure ?_)))
  refine wpAny_bind (m := Builtin.Frozenset.sizeOf s.heap.objs.size) (wpAny_bind (wpAny_setEntries_of (s := { s with heap := h' }) ho hd ft (wpAny_pure ?_)))
  refine wp_if_neg (by rw [rows_len erb]; show ¬ (0 / 8 > es.size); omega) ?_
  refine wpAny_bind (wpAny_setEpoch_of (s := { s with heap := h' }) hob' hdb bxb.fits ?_)
  refine wpAny_bind (wpAny_holding ?_)
  refine wpAny_bind (m := setWalkUnseen b [s.heap.objs.size] none) ?_
  unfold setWalkUnseen
  refine wpAny_bind (wpAny_setState_of (s := { s with heap := h' }) hob' hdb bxb.fits ?_)
  dsimp only
  refine wpAny_bind (wpAny_byText ?_)
  refine wp_if_pos (by rw [rows_len erb]; simp) ?_
  have last : ∀ (es2 : Array (Int × Value)), es2.toList.Perm (([] : List (Value × κ)).map (rowV knd)) → es2 = #[] := fun es2 p => Array.eq_empty_of_size_eq_zero (by
    have := p.length_eq
    simpa using this)
  refine setWalk_at (s := { s with heap := h' }) (knd := knd) zb' fun es2 d p => ?_
  rw [last es2 p]
  refine wpAny_bind ?_
  rw [← Array.forIn_toList]
  refine wpAny_pure (wpAny_pure ?_)
  unfold setTidy
  refine wpAny_bind (wpAny_setState_of (s := { s with heap := h', drawn := d }) ho hd ft ?_)
  dsimp only
  refine wp_if_neg (by unfold SetTable.tooManyDummies; rw [dm]; simp) ?_
  exact wpAny_pure (wpAny_pure (hQ h' d _ N pN zN kp (Nat.le_refl _)))
end
end QB
/-! ### sorted(set(x) - set(y)): the rule -/
namespace QB
open PySem PySem.Spec PyProof.Rows L2
section
variable {X : Cx} {pins : List (Addr × Obj)} {σ : L2.St} {H Hs : Hp} {s : Shared}
theorem sorted_bag (hc : X.calm = true) (hu : X.A.units + 64 < cLine) (I : Inv X pins σ H s) (sub : Same Hs H) {r : Addr} {N : List (Value × Key)} (hz : ZV (mixKind X.prog X.w) s.heap r N) (good : ∀ p ∈ N, RD Hs keyD p.1 p.2)
    {ks : List Key} (pm : (N.map (·.2)).Perm ks) {Q : VK} (hq : PostG (fun _ _ => False) Hs H (srtD (ks.map keyD)) okD Q) : wpAny (model X.prog X.w) X.A (call (.builtin "sorted") [.ref r]) (EP X pins σ Q) X.xe s := by
  have Kd := kind_key (P := X.prog) (w := X.w)
  obtain ⟨hck, hq⟩ := PostG.when hq
  simp only [Bool.and_eq_true] at hck
  obtain ⟨⟨⟨h1, h2⟩, h3⟩, h4⟩ := hck
  have pe : (N.map fun p => keyD p.2).Perm (ks.map keyD) := by
    have := pm.map keyD
    rwa [List.map_map] at this
  have gd : ∀ p ∈ N, ∀ h, isV (mixKind X.prog X.w) h p.1 p.2 := by
    obtain ⟨o, es, ep, t, ho, hx, hd, bx, er, nd, g⟩ := hz
    exact fun p hp h => g p hp
  refine sort_bag Kd (R := RD Hs keyD) hz (I.ok.hd hc) (fun p hp h2 _ => ⟨gd p hp h2, good p hp⟩) (fun x hx y hy => all_alike h1 x (pe.mem_iff.mp hx) y (pe.mem_iff.mp hy)) ?_ (fun p hp => ?_) fun s' q out c ks' k2 g2 o2 hp hg pk eo => ?_
  · rcases is_sortable h2 with z | z
    · exact .inl fun x hx => z x (pe.mem_iff.mp hx)
    · exact .inr fun x hx => z x (pe.mem_iff.mp hx)
  · have := of_decide_eq_true (List.all_eq_true.mp h4 _ (pe.mem_iff.mp (List.mem_map.mpr ⟨p, hp, rfl⟩)))
    omega
  · have e1 : (ks'.mergeSort (PySem.W.dataLe false keyD)).map keyD = sortD (ks.map keyD) := by
      have q1 : (ks'.mergeSort (PySem.W.dataLe false keyD)).map keyD = (ks'.map keyD).mergeSort (PySem.W.dataLe false id) := PySem.W.sort_maps keyD fun a _ b _ => rfl
      rw [q1]
      refine sort_perm ((pk.trans pm).map keyD) fun x hx y hy e => ?_
      obtain ⟨a, _, rfl⟩ := List.mem_map.mp hx
      obtain ⟨b, _, rfl⟩ := List.mem_map.mp hy
      rw [Kd.tok a b e]
    have e2 : PySem.W.EachIs (fun u d => ∃ v, RelV v u ∧ Dd Hs v d) out.toList (sortD (ks.map keyD)) := by rw [← e1]; exact each_enc eo
    obtain ⟨ws, w1, w2⟩ := dd_each e2
    have hn : H q = none := I.hok.fresh hp
    have hlen : ws.length ≤ sizeLine := by
      rw [w1.length, e2.length]
      have : (sortD (ks.map keyD)).length = (ks.map keyD).length := (List.mergeSort_perm ..).length_eq
      rw [this]
      exact lim_line (of_decide_eq_true h3)
    refine ⟨.ref q, upd H q (.lst ws), I.call' (ch := []) o2 (Un.laid k2 hp hn) (I.hok.laid k2 hp ⟨hlen, out.toList, c, w1, by simpa using hg⟩) (by rw [g2]; exact I.bare) (fun _ z => nomatch z), rfl, ?_⟩
    exact hq (.ref q) (upd Hs q (.lst ws)) _ (Ext.laid sub hn) (.lst (.inl upd_same) (dpaMono (same_new (sub.free hn)) _ w2))
theorem entry_set_sub : entryFor table "set.__sub__" = some Builtin.«frozenset.__sub__» :=
  entryFor_alias (id' := "frozenset.__sub__") (by kernel_rfl) (by first | rfl | decide +kernel | (unfold String.splitOn; simp +decide [String.splitOnAux])) (by decide +kernel) (by kernel_rfl)
theorem and_at {M : Model} {A : Around} {E : Value → Shared → Prop} {s : Shared} {x y : Sem Bool} {Q : Bool → Shared → Prop} (h : wpAny M A x (fun b s' => b = true ∧ wpAny M A y Q E s') E s) : wpAny M A (x <&&> y) Q E s :=
  wpAny_bind (thn h fun b s' ⟨e, q⟩ => by subst e; exact q)
/-- set - set, at the library's level -/
theorem sub_sets {P : Program} {w : World} {κ : Type} [DecidableEq κ] {knd : PySem.KeyKind P w κ} {A : Around} {E : Value → Shared → Prop} {s : Shared} {a b : Addr} {L M : List (Value × κ)} (Ra : ZV knd s.heap a L) (Rb : ZV knd s.heap b M) (hab : a ≠ b) (h6 : L.length = 6) {Q : Value → Shared → Prop}
    (hQ : ∀ h' d r N, N.Perm (L.filter fun p => !decide (p.2 ∈ M.map (·.2))) → ZV knd h' r N → Kept s.heap h' → s.heap.objs.size ≤ r → Q (.ref r) { s with heap := h', drawn := d }) : wpAny (model P w) A (binaryOp .Sub (.ref a) (.ref b)) Q E s := by
  obtain ⟨oa, ea, epa, ta, hoa, hxa, hda, bxa, era, nda, ga⟩ := id Ra
  obtain ⟨ob, eb, epb, tb, hob, hxb, hdb, bxb, erb, ndb, gb⟩ := id Rb
  have hTa : s.TypeIs (.ref a) "set" := ⟨_, hoa, hxa.1⟩
  have hTb : s.TypeIs (.ref b) "set" := ⟨_, hob, hxb.1⟩
  refine wpAny_binaryOp_same (op := .Sub) hTa hTb PySem.F.fills_set_sub PySem.F.slot_set_sub (wpAny_call_entry PySem.F.slot_set_sub hTa entry_set_sub ?_ (PySem.F.args_set_sub_2 _ _))
  show wpAny _ _ (Builtin.Frozenset.slot1 "__sub__" ⟨[.ref a, .ref b], []⟩ >>= _) _ _ _
  refine wpAny_bind (wpAny_of_eq (a := (Value.ref a, Value.ref b)) rfl ?_)
  simp only [Bool.false_eq_true, if_false]
  refine wpAny_bind (and_at (isAnySet_at hTa ⟨rfl, isAnySet_at hTb ?_⟩))
  refine wp_if_neg (fun z => nomatch z) ?_
  refine wpAny_bind (m := Builtin.Frozenset.addrOf (.ref a)) (wpAny_pure ?_)
  generalize (toString "frozenset." ++ toString "__sub__") = nm
  have fin : ∀ (r : Addr) (s' : Shared), Q (.ref r) s' → wpAny (model P w) A.in1 (ret (Value.ref r)) (fun fin s' => ∃ v, fin = Fin.done (Flow.ret v) ∧ v ≠ Value.notImplemented ∧ Q v s') E s' := fun r s' q => wpAny_pure ⟨_, rfl, (fun z => nomatch z), q⟩
  by_cases hM : M = []
  · subst hM
    refine wpAny_bind (difference_nil Ra Rb hab h6 fun h' d r N pm z kp hr => fin _ _ (hQ h' d r N ?_ z kp hr))
    have : (L.filter fun p => !decide (p.2 ∈ ([] : List (Value × κ)).map (·.2))) = L := List.filter_eq_self.mpr fun p _ => by simp
    rw [this]
    exact pm
  · have hpos := List.length_pos_iff.mpr hM
    exact wpAny_bind (difference_at Ra Rb hab (by omega) fun h' d r N pm z kp hr => fin _ _ (hQ h' d r N pm z kp hr))
end
/-! #### the rule -/
theorem sdif_noexc (a b : Str) (c : Str) : sdifD a b ≠ .exc c := when_noexc fun c => when_noexc fun _ z => nomatch z
def keys1 (z : Str) : List Key := z.cps.toList.map fun c => Sum.inr ⟨#[c]⟩
theorem signs_keys (z : Str) : signs1 z = (keys1 z).map keyD := by unfold signs1 keys1; rw [List.map_map]; rfl
theorem any_enc {κ : Type} [DecidableEq κ] {enc : κ → PyData} (he : ∀ a b, PyData.eqv (enc a) (enc b) = decide (a = b)) (ks : List κ) (k : κ) : ((ks.map enc).any fun y => PyData.eqv y (enc k)) = decide (k ∈ ks) := by
  rw [Bool.eq_iff_iff, List.any_eq_true, decide_eq_true_eq]
  constructor
  · rintro ⟨y, hy, e⟩
    obtain ⟨j, hj, rfl⟩ := List.mem_map.mp hy
    rw [he] at e
    rw [← of_decide_eq_true e]; exact hj
  · intro h
    exact ⟨enc k, List.mem_map.mpr ⟨k, h, rfl⟩, by rw [he]; simp⟩
theorem filt_perm {κ : Type} [DecidableEq κ] {enc : κ → PyData} (he : ∀ a b, PyData.eqv (enc a) (enc b) = decide (a = b)) {L M N : List (Value × κ)} {ka kb : List κ} (pL : (L.map (·.2)).Perm (dedupE ka)) (pM : (M.map (·.2)).Perm (dedupE kb))
    (pN : N.Perm (L.filter fun p => !decide (p.2 ∈ M.map (·.2)))) : ∃ ks : List κ, (N.map (·.2)).Perm ks ∧ ks.map enc = (dedup (ka.map enc)).filter fun x => !(kb.map enc).any fun y => PyData.eqv y x := by
  refine ⟨(dedupE ka).filter fun k => !decide (k ∈ kb), ?_, ?_⟩
  · have e1 : (L.filter fun p => !decide (p.2 ∈ M.map (·.2))).map (·.2) = (L.map (·.2)).filter fun k => !decide (k ∈ kb) := by
      rw [List.filter_map]
      congr 1
      refine List.filter_congr fun p _ => ?_
      show (!decide (p.2 ∈ M.map (·.2))) = !decide (p.2 ∈ kb)
      congr 1
      have : p.2 ∈ M.map (·.2) ↔ p.2 ∈ kb := by rw [pM.mem_iff, mem_dedupE]
      rw [Bool.eq_iff_iff, decide_eq_true_eq, decide_eq_true_eq]
      exact this
    have := pN.map (·.2)
    rw [e1] at this
    exact this.trans (pL.filter _)
  · rw [dedup_map he, List.filter_map]
    congr 1
    refine List.filter_congr fun k _ => ?_
    show (!decide (k ∈ kb)) = !((kb.map enc).any fun y => PyData.eqv y (enc k))
    rw [any_enc he]
section
variable {X : Cx} {W : WX} {a b : Expr} {ma mb : Env → R PyData}
theorem kind_key_eq : ∀ a b : Key, PyData.eqv (keyD a) (keyD b) = decide (a = b) := eqv_key
/-- the second operand's text, behind the first one's set -/
theorem core_sdif {pins : List (Addr × Obj)} {σ : L2.St} {H Hs : Hp} {s : Shared} {za zb : Str} {tb : Tok} {A : Addr} {L : List (Value × Key)} {Q : VK} (hc : X.calm = true) (hu : X.A.units + 64 < cLine) (I : Inv X pins σ H s) (sub : Same Hs H) (hob : PyData.strOk zb = true)
    (zA : ZV (mixKind X.prog X.w) s.heap A L) (pL : (L.map (·.2)).Perm (dedupE (keys1 za))) (gA : ∀ p ∈ L, RD Hs keyD p.1 p.2) (hq : PostG (fun _ _ => False) Hs H (sdifD za zb) okD Q) :
    wpAny (model X.prog X.w) X.A (call (.type "set") [.str zb tb]) (fun u s' => wpAny (model X.prog X.w) X.A (binaryOp .Sub (.ref A) u) (fun v s'' => wpAny (model X.prog X.w) X.A (call (.builtin "sorted") [v]) (EP X pins σ Q) X.xe s'') X.xe s') X.xe s := by
  obtain ⟨hk, hq⟩ := PostG.when hq
  rw [Bool.and_eq_true, decide_eq_true_eq, decide_eq_true_eq] at hk
  have h6 : L.length = 6 := by
    have h1 := pL.length_eq
    have h2 := hk.2
    rw [signs_keys, dedup_map kind_key_eq, List.length_map] at h2
    rw [List.length_map] at h1
    omega
  refine set_text (Hs := Hs) hc hu I hob hk.1 fun h' tk M hz got good kp => ?_
  have hA : A < s.heap.objs.size := by
    obtain ⟨o, es, ep, t, ho, _⟩ := zA
    exact Heap.lt_size ho
  have zA' : ZV (mixKind X.prog X.w) h' A L := by
    obtain ⟨o, es, ep, t, ho, hx, hd, bx, er, nd, g⟩ := zA
    exact ⟨o, es, ep, t, kp _ _ ho, hx, hd, bx, er, nd, fun p hp => g p hp⟩
  have ndM : (M.map (·.2)).Nodup := (kind_key (P := X.prog) (w := X.w)).bag.nd hz
  have pM := got_perm got ndM
  refine sub_sets (s := { s with heap := h', toks := tk }) zA' hz (Nat.ne_of_lt hA) h6 fun h2 d r N pN zN kp2 hr => ?_
  have I1 : Inv X pins σ H { s with heap := h2, toks := tk } := I.kept fun b o e => kp2 b o (kp b o e)
  have I2 : Inv X pins σ H { s with heap := h2, toks := tk, drawn := d } := ⟨I1.ok, I1.os, I1.bare, I1.base, I1.loc, I1.cell, I1.free, I1.freeC, I1.pin, I1.hok, I1.len⟩
  obtain ⟨ks, p1, e1⟩ := filt_perm kind_key_eq pL pM pN
  refine sorted_bag hc hu I2 sub zN (fun p hp => gA p (List.mem_filter.mp (pN.mem_iff.mp hp)).1) p1 ?_
  rw [e1]
  rw [signs_keys, signs_keys] at hq
  exact hq
def tSdif (ta tb : TE) : TE := fun σ H Q => ta σ H fun v H1 => ∃ (Hs : Hp) (za : Str), Same Hs H1 ∧ Dd Hs v (.str za) ∧ za.length ≤ 2000 ∧ tb σ H1 fun u H2 => ∃ (Hs2 : Hp) (zb : Str), Ext Hs H1 Hs2 H2 ∧ Dd Hs2 u (.str zb) ∧ PostG (fun _ _ => False) Hs2 H2 (sdifD za zb) okD Q
theorem de_sdif {p p2 p3 q q2 q3 pos : Pos} (hc : X.calm = true) (hu : X.A.units + 64 < cLine) (b1 : BltB X "sorted" "sorted") (b2 : BltT X "set" "set") (hs : noStar a = true) (hs2 : noStar b = true) (ha : DE X W a ma) (hb : DE X W b mb) :
    DE X W (.Call (.Name "sorted" p) [.BinOp (.Call (.Name "set" p2) [a] [] q) .Sub (.Call (.Name "set" p3) [b] [] q2) q3] [] pos) (fun ρ => (ma ρ).bind fun d => R.when (match d with | .str z => decide (z.length ≤ 2000) | _ => false) ((mb ρ).bind fun e => match d, e with | .str za, .str zb => sdifD za zb | _, _ => .stuck)) := by
  obtain ⟨ta, pa, qa⟩ := ha
  obtain ⟨tb, pb, qb⟩ := hb
  refine ⟨tSdif ta tb, ⟨fun pins s σ H Q I h => ?_⟩, fun ρ σ Hs H Q r h => ?_⟩
  · refine Call_ (ld_blt I b1.1 b1.2.1 b1.2.2.1 (PyProof.Rows.callWith_builtin1 (PyProof.Rows.args_cons ?_ rfl) rfl rfl))
    refine wpAny_BinOp ?_
    refine Call_ (ld_blt I b2.1 b2.2.1 b2.2.2.1 (PyProof.Rows.callWith_type1 (PyProof.Rows.args_cons (thn (pa.run pins s σ H _ I h) fun v s1 ⟨x, H1, I1, r1, q1⟩ => PyProof.Rows.args_nil ?_) (star_cons hs)) (star_cons hs) rfl))
    obtain ⟨Hs, za, sub, hd, hl, q1⟩ := q1
    cases hd with
    | str _ ho =>
      obtain ⟨t, rfl⟩ := r1
      refine set_text (Hs := Hs) hc hu I1 ho hl fun h' tk L hz got good kp => ?_
      have nd : (L.map (·.2)).Nodup := (kind_key (P := X.prog) (w := X.w)).bag.nd hz
      have pL := got_perm got nd
      obtain ⟨oA, es, ep, tt, hoA, hx, hdA, bx, er, _, g⟩ := id hz
      have I2 : Inv X pins σ H1 { s1 with heap := h', toks := tk } := I1.kept kp
      have nloc : s1.heap.objs.size ≠ X.env.locals := (Nat.ne_of_lt I1.lt).symm
      have I3 : Inv X ((s1.heap.objs.size, oA) :: pins) σ H1 { s1 with heap := h', toks := tk } := ⟨I2.ok, I2.os, I2.bare, I2.base, I2.loc, I2.cell, I2.free, I2.freeC, fun pp hp => ?_, I2.hok, I2.len⟩
      · refine Call_ (ld_blt I3 b2.1 b2.2.1 b2.2.2.1 (PyProof.Rows.callWith_type1 (PyProof.Rows.args_cons (thn (pb.run ((s1.heap.objs.size, oA) :: pins) _ σ H1 _ I3 q1) fun u s2 ⟨y, H2, I4, r2, q2⟩ => PyProof.Rows.args_nil ?_) (star_cons hs2)) (star_cons hs2) rfl))
        obtain ⟨Hs2, zb, ext, hdb, hq⟩ := q2
        cases hdb with
        | str _ hob =>
          obtain ⟨t2, rfl⟩ := r2
          have hA2 : s2.heap.get? s1.heap.objs.size = some oA := (I4.pin (s1.heap.objs.size, oA) (List.mem_append_right _ List.mem_cons_self)).1
          have I5 : Inv X pins σ H2 s2 := I4.pins_of fun pp hp => I4.pin pp (List.mem_append_right _ (List.mem_cons_of_mem _ hp))
          have zA : ZV (mixKind X.prog X.w) s2.heap s1.heap.objs.size L := ⟨oA, es, ep, tt, hA2, hx, hdA, bx, er, nd, fun p hp => g p hp⟩
          refine thn (core_sdif (za := za) hc hu I5 ext.sub hob zA pL (fun p hp => ?_) hq) fun u s' h' => ?_
          · obtain ⟨x, e1, e2⟩ := (good p hp h' kp).2
            exact ⟨x, e1, dpMono ext.s _ e2⟩
          · exact thn h' fun v s'' h'' => PyProof.Rows.args_nil h''
      · rcases List.mem_append.mp hp with z | z
        · exact I2.pin pp (List.mem_append_left _ z)
        · rcases List.mem_cons.mp z with rfl | z
          · refine ⟨hoA, I1.hok.fresh (Nat.le_refl _), nloc, I1.nofs (Nat.le_refl _), fun v => ?_⟩
            rw [hdA]
            exact fun q => nomatch q
          · exact I2.pin pp (List.mem_append_right _ z)
  · refine qa ρ σ Hs H _ r (h.seq fun d v Hs1 H1 _ e1 o1 h1 => ?_)
    obtain ⟨hl, h1⟩ := PostG.when h1
    cases d with
    | str za =>
      refine ⟨Hs1, za, e1.sub, o1, of_decide_eq_true hl, ?_⟩
      refine qb ρ σ Hs1 H1 _ (r.ext e1) (h1.seq fun e u Hs2 H2 _ e2 o2 h2 => ?_)
      cases e with
      | str zb => exact ⟨Hs2, zb, e2, o2, h2.firm fun c => sdif_noexc za zb c⟩
      | _ => exact h2.elim
    | _ => cases hl
end
end QB
/-! ### the check that a term is the text's, and its meaning -/
namespace QB
open PySem L2
def bltNames : List Str := ["len", "all", "any", "sum", "max", "min", "int", "str", "list", "tuple", "sorted", "isinstance", "range", "zip", "enumerate", "set", "bool"]
structure Wd (X : Cx) (k : Nat) : Prop where
  blt : ∀ x ∈ bltNames, X.mg x = none
  room : Room k X.A
inductive Use where
  | call (x : Str) (m : List PyData → R PyData) | glb (x : Str) (d : PyData) | rai (x : Str)
def Use.ok (X : Cx) (k : Nat) : Use → Prop
  | .call x m => Cal X.prog X.w X.K X.mg X.base k x m
  | .glb x d => ∃ u v, X.mg x = some u ∧ RelV v u ∧ scalV d = some v
  | .rai x => RaiOk X x
mutual
def usesP : P → List Use
  | .cst _ => []
  | .var _ => []
  | .glb x d => [.glb x d]
  | .un _ a => usesP a
  | .bi _ a c => usesP a ++ usesP c
  | .chn _ _ a b c => usesP a ++ (usesP b ++ usesP c)
  | .repl a b c => usesP a ++ (usesP b ++ usesP c)
  | .nt a => usesP a
  | .an a b => usesP a ++ usesP b
  | .oo a b => usesP a ++ usesP b
  | .ite c a b => usesP c ++ (usesP a ++ usesP b)
  | .tup as => usesPs as
  | .lst as => usesPs as
  | .lstRng it => usesI it
  | .fn x m as => .call x m :: usesPs as
  | .comp it _ e _ => usesI it ++ usesP e
  | .compT it _ t e _ => usesI it ++ (usesP t ++ usesP e)
def usesPs : Ps → List Use
  | .nil => []
  | .cons a as => usesP a ++ usesPs as
def usesI : It → List Use
  | .seq a => usesP a
  | .rng1 a => usesP a
  | .rng2 a b => usesP a ++ usesP b
  | .zip2 a b => usesP a ++ usesP b
  | .zip3 a b c => usesP a ++ (usesP b ++ usesP c)
  | .enm a => usesP a
end
def usesS : S → List Use
  | .pass => []
  | .own _ as => usesPs as
  | .ownA _ a b => usesP a ++ usesP b
  | .ownC _ p => usesP p
  | .asg _ p => usesP p
  | .par _ ps => usesPs ps
  | .app _ p => usesP p
  | .ext _ p => usesP p
  | .evl p => usesP p
  | .iff c a b => usesP c ++ (usesS a ++ usesS b)
  | .forr it _ b => usesI it ++ usesS b
  | .whl _ c b => usesP c ++ usesS b
  | .ret p => usesP p
  | .rai x => [.rai x]
  | .frz _ => []
  | .seq a b => usesS a ++ usesS b
  | .nil => []
/-! #### one step of a text -/
def isBl (c : Cc) (x n : Str) : Bool := decide (x = n) && isGl c x
def unB : Un → Option String
  | .len => some "len" | .all => some "all" | .any => some "any" | .sum => some "sum" | .max1 => some "max" | .min1 => some "min" | .srt => some "sorted" | _ => none
def unT : Un → Option String
  | .toInt => some "int" | .toStr => some "str" | .toList => some "list" | .toTuple => some "tuple" | _ => none
def vSet (c : Cc) (n x : Str) : Expr → Option Expr
  | .Call (.Name y _) [b] [] _ => if isBl c x n && isBl c y "set" && noStar b then some b else none
  | _ => none
def vUn (c : Cc) (u : Un) (e : Expr) : Option Expr := match e with
  | .UnaryOp .USub a _ => if u = .neg then some a else none
  | .Subscript a (.Slice none none (some (.UnaryOp .USub (.Constant (.int 1) _ _) _)) _) _ => if u = .rev then some a else none
  | .Call (.Name x _) [a, .Name y _] [] _ => match u with
    | .isi T => if isBl c x "isinstance" && isGl c y && decide (y = Str.ofString T) && isiT T && noStar a then some a else none
    | _ => none
  | .Call (.Name x _) [a] [] _ => if u = .sset then vSet c "sorted" x a else if u = .lset then vSet c "len" x a else match unB u, unT u with
    | some n, _ => if isBl c x n && noStar a then some a else none
    | _, some n => if isBl c x n && noStar a then some a else none
    | _, _ => none
  | _ => none
def vBi (c : Cc) (b : Bi) (e : Expr) : Option (Expr × Expr) := match e with
  | .BinOp x op y _ => if binB op = some b then some (x, y) else none
  | .Compare x [op] [y] _ => if cmpB op = some b ∧ behindInMarks op y = false then some (x, y) else none
  | .Subscript x (.Slice (some y) none none _) _ => if b = .sfrom then some (x, y) else none
  | .Subscript x (.Slice none (some y) none _) _ => if b = .sto then some (x, y) else none
  | .Subscript x y _ => if b = .idx ∧ plainIxB y = true then some (x, y) else none
  | .Call (.Name n _) [x, y] [] _ => if b = .max2 ∧ isBl c n "max" = true ∧ noStar x = true ∧ noStar y = true then some (x, y) else if b = .min2 ∧ isBl c n "min" = true ∧ noStar x = true ∧ noStar y = true then some (x, y) else none
  | .Call (.Attribute x n ap) [y] [] p => if b = .join ∧ n = "join" ∧ plainBase x = true ∧ (ap.endLine == p.line) = true ∧ noStar y = true then some (x, y) else if b = .part ∧ n = "partition" ∧ plainBase x = true ∧ (ap.endLine == p.line) = true ∧ noStar y = true then some (x, y) else none
  | .Call (.Name n _) [.BinOp (.Call (.Name m _) [x] [] _) .Sub (.Call (.Name l _) [y] [] _) _] [] _ => if b = .sdiff ∧ isBl c n "sorted" = true ∧ isBl c m "set" = true ∧ isBl c l "set" = true ∧ noStar x = true ∧ noStar y = true then some (x, y) else none
  | _ => none
def vChn (o o' : Bi) (e : Expr) : Option (Expr × Expr × Expr) := match e with
  | .Compare x [op, op'] [y, z] _ => if cmpB op = some o ∧ cmpB op' = some o' ∧ lastMarks [op, op'] [y, z] = false then some (x, y, z) else none
  | _ => none
def vNot : Expr → Option Expr
  | .UnaryOp .Not a _ => some a
  | _ => none
def vAnd : Expr → Option (Expr × Expr)
  | .BoolOp .And [x, y] _ => some (x, y)
  | .BoolOp .And (x :: y :: z :: r) p => some (x, .BoolOp .And (y :: z :: r) p)
  | _ => none
def vOr : Expr → Option (Expr × Expr)
  | .BoolOp .Or [x, y] _ => some (x, y)
  | .BoolOp .Or (x :: y :: z :: r) p => some (x, .BoolOp .Or (y :: z :: r) p)
  | _ => none
def vIte : Expr → Option (Expr × Expr × Expr)
  | .IfExp c a b _ => some (c, a, b)
  | _ => none
def vTup : Expr → Option (List Expr)
  | .Tuple es _ _ => some es
  | _ => none
def vLst : Expr → Option (List Expr)
  | .List es _ => some es
  | _ => none
def vCst : Expr → Option PyData
  | .Constant (.int i) _ _ => some (.int i)
  | .Constant (.bool i) _ _ => some (.bool i)
  | .Constant .none _ _ => some .none
  | .Constant (.str i) _ _ => if PyData.strOk i then some (.str i) else none
  | _ => none
def sameC : PyData → Option PyData → Bool
  | .int i, some (.int j) => decide (i = j)
  | .bool i, some (.bool j) => i == j
  | .none, some .none => true
  | .str i, some (.str j) => decide (i = j)
  | _, _ => false
def vVar : Expr → Option Str
  | .Name x _ => some x
  | _ => none
def vFn : Expr → Option (Str × List Expr)
  | .Call (.Name x _) es [] _ => some (x, es)
  | _ => none
structure CompV where
  elt : Expr
  tg : Expr
  iter : Expr
  ifs : List Expr
  scope : Scope
def vComp : Expr → Option CompV
  | .ListComp elt [⟨tg, iter, ifs, 0⟩] scope _ => some ⟨elt, tg, iter, ifs, scope⟩
  | _ => none
def notSet : Expr → Bool
  | .Set _ _ _ => false
  | _ => true
def Cc.blk (c : Cc) (scope : Scope) : Cc := ⟨c.N, relS scope c.sc, fun x => scope.names.lookup x == some .cell⟩
def plainT : Expr → Bool
  | .UnaryOp .Not _ _ => false
  | .BoolOp _ _ _ => false
  | .IfExp _ _ _ _ => false
  | .Compare _ _ _ _ => false
  | _ => true
def isCmp : Expr → Bool
  | .Compare _ _ _ _ => true
  | _ => false
def isTup : Expr → Bool
  | .Tuple _ _ _ => true
  | _ => false
def vRng (c : Cc) (n : Str) : Expr → Option (List Expr)
  | .Call (.Name x _) es [] _ => if isBl c x n && es.all noStar then some es else none
  | _ => none
def vLR (c : Cc) : Expr → Option (List Expr)
  | .Call (.Name y _) [.Call (.Name x _) es [] _] [] _ => if isBl c y "list" && isBl c x "range" && es.all noStar then some es else none
  | _ => none
def vLZ (c : Cc) : Expr → Option (Expr × Expr × Expr)
  | .Call (.Name y _) [.Call (.Name x _) [a, b, d] [] _] [] _ => if isBl c y "list" && isBl c x "zip" && noStar a && noStar b && noStar d then some (a, b, d) else none
  | _ => none
def compB (c : Cc) (tg : Tg) (own : List (Str × Nat)) (v : CompV) : Bool :=
  blkC c.N c.sc v.scope own && tgB (c.blk v.scope) tg v.tg && (tg.slots.all fun i => decide (i ∈ own.map (·.2))) && notSet v.iter
mutual
def chkE (c : Cc) : P → Expr → Bool
  | .cst d, e => sameC d (vCst e)
  | .var i, e => match vVar e with
    | some x => (match c.N[i]? with | some y => decide (y = x) | none => false) && isVis c x
    | none => false
  | .glb x _, e => match vVar e with
    | some y => decide (y = x) && isGl c x
    | none => false
  | .un u a, e => match vUn c u e with
    | some x => chkE c a x
    | none => false
  | .bi b a a', e => match vBi c b e with
    | some (x, y) => chkE c a x && chkE c a' y
    | none => false
  | .chn o o' a a' a2, e => match vChn o o' e with
    | some (x, y, z) => chkE c a x && chkE c a' y && chkE c a2 z
    | none => false
  | .repl _ _ _, _ => false
  | .nt a, e => match vNot e with
    | some x => chkE c a x
    | none => false
  | .an a b, e => match vAnd e with
    | some (x, y) => chkE c a x && chkE c b y
    | none => false
  | .oo a b, e => match vOr e with
    | some (x, y) => chkE c a x && chkE c b y
    | none => false
  | .ite t a b, e => match vIte e with
    | some (x, y, z) => chkT c t x && chkE c a y && chkE c b z
    | none => false
  | .tup as, e => match vTup e with
    | some es => chkEs c as es && decide (es.length ≤ 1000)
    | none => false
  | .lst as, e => match vLst e with
    | some es => chkEs c as es && decide (es.length ≤ 1000)
    | none => false
  | .lstRng (.rng1 a), e => match vLR c e with
    | some [x] => chkE c a x
    | _ => false
  | .lstRng (.rng2 a b), e => match vLR c e with
    | some [x, y] => chkE c a x && chkE c b y
    | _ => false
  | .lstRng (.zip3 a b d), e => match vLZ c e with
    | some (x, y, z) => chkE c a x && chkE c b y && chkE c d z
    | _ => false
  | .lstRng _, _ => false
  | .fn x _ as, e => match vFn e with
    | some (y, es) => decide (y = x) && isGl c x && chkEs c as es
    | none => false
  | .comp it tg elt own, e => match vComp e with
    | some v => compB c tg own v && chkI c it v.tg v.iter && v.ifs.isEmpty && chkE (c.blk v.scope) elt v.elt
    | none => false
  | .compT it tg t elt own, e => match vComp e with
    | some v => (match v.ifs with
      | [x] => compB c tg own v && chkI c it v.tg v.iter && chkT (c.blk v.scope) t x && chkE (c.blk v.scope) elt v.elt
      | _ => false)
    | none => false
def chkT (c : Cc) : P → Expr → Bool
  | .nt a, e => match vNot e with
    | some x => chkT c a x
    | none => false
  | .an a b, e => match vAnd e with
    | some (x, y) => chkT c a x && chkT c b y
    | none => false
  | .oo a b, e => match vOr e with
    | some (x, y) => chkT c a x && chkT c b y
    | none => false
  | .bi b a a', e => match vBi c b e with
    | some (x, y) => chkE c a x && chkE c a' y
    | none => false
  | .chn o o' a a' a2, e => match vChn o o' e with
    | some (x, y, z) => chkE c a x && chkE c a' y && chkE c a2 z
    | none => false
  | .un u a, e => plainT e && match vUn c u e with
    | some x => chkE c a x
    | none => false
  | .var i, e => match vVar e with
    | some x => (match c.N[i]? with | some y => decide (y = x) | none => false) && isVis c x
    | none => false
  | .fn x _ as, e => match vFn e with
    | some (y, es) => decide (y = x) && isGl c x && chkEs c as es
    | none => false
  | _, _ => false
def chkEs (c : Cc) : Ps → List Expr → Bool
  | .nil, l => l.isEmpty
  | .cons a as, l => match l with
    | e :: es => chkE c a e && noStar e && chkEs c as es
    | [] => false
def chkI (c : Cc) : It → Expr → Expr → Bool
  | .seq a, _, e => chkE c a e
  | .rng1 a, _, e => match vRng c "range" e with
    | some [x] => chkE c a x
    | _ => false
  | .rng2 a b, _, e => match vRng c "range" e with
    | some [x, y] => chkE c a x && chkE c b y
    | _ => false
  | .zip2 a b, t, e => isTup t && match vRng c "zip" e with
    | some [x, y] => chkE c a x && chkE c b y
    | _ => false
  | .zip3 _ _ _, _, _ => false
  | .enm a, t, e => isTup t && match vRng c "enumerate" e with
    | some [x] => chkE c a x
    | _ => false
end
/-! #### soundness -/
section
variable {c : Cc} {X : Cx} {W : WX} {k : Nat} {e x y z : Expr} {ma mb mc : Env → R PyData}
theorem isBl_is {c : Cc} {x n : Str} (h : isBl c x n = true) : x = n ∧ isGl c n = true := by
  unfold isBl at h
  rw [Bool.and_eq_true] at h
  have := of_decide_eq_true h.1
  subst this
  exact ⟨rfl, h.2⟩
theorem bltB (hX : InC c X) (hw : Wd X k) {n : Str} {id : String} (hg : isGl c n = true) (hm : n ∈ bltNames) (hb : bootBuiltins n = some (.builtin id)) (hn : n ≠ "__name__") : BltB X n id :=
  ⟨(hX.gl hg).1, hw.blt n hm, hb, hn, (hX.gl hg).2⟩
theorem bltT (hX : InC c X) (hw : Wd X k) {n : Str} {id : String} (hg : isGl c n = true) (hm : n ∈ bltNames) (hb : bootBuiltins n = some (.type id)) (hn : n ≠ "__name__") : BltT X n id :=
  ⟨(hX.gl hg).1, hw.blt n hm, hb, hn, (hX.gl hg).2⟩
theorem un_B (hc : X.calm = true) (hu : X.A.units + 64 < cLine) {u : Un} {n : String} (h : unB u = some n) : CallR X (.builtin n) (rCD X (c1 u)) ∧ (n : Str) ∈ bltNames ∧ bootBuiltins (n : Str) = some (.builtin n) ∧ (n : Str) ≠ "__name__" := by
  cases u <;> cases h
  · exact ⟨cl_len, by decide, rfl, by decide⟩
  · exact ⟨cl_all hc, by decide, rfl, by decide⟩
  · exact ⟨cl_any hc, by decide, rfl, by decide⟩
  · exact ⟨cl_max1 hc, by decide, rfl, by decide⟩
  · exact ⟨cl_min1 hc hu, by decide, rfl, by decide⟩
  · exact ⟨cl_sum hc, by decide, rfl, by decide⟩
  · exact ⟨cl_sorted hu, by decide, rfl, by decide⟩
theorem un_T {u : Un} {n : String} (h : unT u = some n) : CallR X (.type n) (rCD X (c1 u)) ∧ (n : Str) ∈ bltNames ∧ bootBuiltins (n : Str) = some (.type n) ∧ (n : Str) ≠ "__name__" := by
  cases u <;> cases h
  · exact ⟨cl_int, by decide, rfl, by decide⟩
  · exact ⟨cl_str, by decide, rfl, by decide⟩
  · exact ⟨cl_list, by decide, rfl, by decide⟩
  · exact ⟨cl_tuple, by decide, rfl, by decide⟩
theorem isi_blt {T : String} (h : isiT T = true) : (Str.ofString T) ∈ bltNames ∧ bootBuiltins (Str.ofString T) = some (.type T) ∧ (Str.ofString T) ≠ "__name__" := by
  unfold isiT at h
  simp only [Bool.or_eq_true, beq_iff_eq] at h
  rcases h with (((h | h) | h) | h) | h <;> subst h <;> exact ⟨by decide, rfl, by decide⟩
theorem vUn_de (hX : InC c X) (hw : Wd X k) {u : Un} (h : vUn c u e = some x) (hx : DE X W x ma) : DE X W e (fun ρ => (ma ρ).bind fun d => un1 u d) := by
  unfold vUn at h
  split at h
  · split at h
    · rename_i hu; cases h; subst hu; exact de_neg hx
    · cases h
  · split at h
    · rename_i hu; cases h; subst hu; exact de_rev hx
    · cases h
  · split at h
    · split at h
      · rename_i hh
        cases h
        simp only [Bool.and_eq_true, decide_eq_true_eq] at hh
        obtain ⟨⟨⟨⟨h1, h2⟩, h3⟩, h4⟩, h5⟩ := hh
        obtain ⟨rfl, h1⟩ := isBl_is h1
        subst h3
        have q := isi_blt h4
        exact de_isi (bltB hX hw h1 (by decide) rfl (by decide)) (bltT hX hw h2 q.1 q.2.1 q.2.2) h5 hx
      · cases h
    · cases h
  · split at h
    · rename_i hu0
      subst hu0
      unfold vSet at h
      split at h
      · split at h
        · rename_i hh
          cases h
          simp only [Bool.and_eq_true] at hh
          obtain ⟨rfl, h1⟩ := isBl_is hh.1.1
          obtain ⟨rfl, h2⟩ := isBl_is hh.1.2
          exact de_sset hX.calm hw.room.units (bltB hX hw h1 (by decide) rfl (by decide)) (bltT hX hw h2 (by decide) rfl (by decide)) hh.2 hx
        · cases h
      · cases h
    split at h
    · rename_i hu0
      subst hu0
      unfold vSet at h
      split at h
      · split at h
        · rename_i hh
          cases h
          simp only [Bool.and_eq_true] at hh
          obtain ⟨rfl, h1⟩ := isBl_is hh.1.1
          obtain ⟨rfl, h2⟩ := isBl_is hh.1.2
          exact de_lset hX.calm hw.room.units (bltB hX hw h1 (by decide) rfl (by decide)) (bltT hX hw h2 (by decide) rfl (by decide)) hh.2 hx
        · cases h
      · cases h
    split at h
    · rename_i hn
      split at h
      · rename_i hh
        cases h
        rw [Bool.and_eq_true] at hh
        obtain ⟨rfl, h1⟩ := isBl_is hh.1
        have q := un_B (X := X) hX.calm hw.room.units hn
        exact de_un1B (bltB hX hw h1 q.2.1 q.2.2.1 q.2.2.2) q.1 hh.2 hx
      · cases h
    · rename_i hn _
      split at h
      · rename_i hh
        cases h
        rw [Bool.and_eq_true] at hh
        obtain ⟨rfl, h1⟩ := isBl_is hh.1
        have q := un_T (X := X) hn
        exact de_un1T (bltT hX hw h1 q.2.1 q.2.2.1 q.2.2.2) q.1 hh.2 hx
      · cases h
    · cases h
  · cases h
theorem rcv_bin {op : Operator} {b : Bi} (h : binB op = some b) (d : PyData) : rcv b d = true := by cases op <;> cases h <;> rfl
theorem rcv_cmp {op : CmpOp} {b : Bi} (h : cmpB op = some b) (d : PyData) : rcv b d = true := by cases op <;> cases h <;> rfl
theorem rcvT {b : Bi} (hb : ∀ d, rcv b d = true) {r r' : R PyData} : (r.bind fun d => r'.bind fun e => bi2 b d e) = r.bind fun d => R.when (rcv b d) (r'.bind fun e => bi2 b d e) := by
  cases r with
  | ok d => show _ = R.when (rcv b d) _; rw [hb d]; rfl
  | exc c => rfl
  | stuck => rfl
theorem vBi_de (hX : InC c X) (hw : Wd X k) {b : Bi} (h : vBi c b e = some (x, y)) (hx : DE X W x ma) (hy : DE X W y mb) : DE X W e (fun ρ => (ma ρ).bind fun d => R.when (rcv b d) ((mb ρ).bind fun e => bi2 b d e)) := by
  unfold vBi at h
  split at h
  · split at h
    · rename_i hh; cases h
      exact (de_bin (op_binD hh) (bi2_noexc b) hx hy).congr fun ρ => rcvT (rcv_bin hh)
    · cases h
  · split at h
    · rename_i hh; cases h
      exact (de_cmp (op_cmpD hw.room.units hh.1) (bi2_noexc b) hx hy hh.2).congr fun ρ => rcvT (rcv_cmp hh.1)
    · cases h
  · split at h
    · rename_i hh; cases h; subst hh
      exact (de_sfrom hx hy).congr fun ρ => rcvT fun d => rfl
    · cases h
  · split at h
    · rename_i hh; cases h; subst hh
      exact (de_sto hx hy).congr fun ρ => rcvT fun d => rfl
    · cases h
  · split at h
    · rename_i hh; cases h; obtain ⟨rfl, hh⟩ := hh
      exact (de_idx hh hx hy).congr fun ρ => rcvT fun d => rfl
    · cases h
  · split at h
    · rename_i hh; cases h; obtain ⟨rfl, h1, h2, h3⟩ := hh
      obtain ⟨rfl, h1⟩ := isBl_is h1
      exact (de_bi2B (bltB hX hw h1 (by decide) rfl (by decide)) (cl_max2 hX.calm) h2 h3 hx hy).congr fun ρ => rcvT fun d => rfl
    · split at h
      · rename_i hh; cases h; obtain ⟨rfl, h1, h2, h3⟩ := hh
        obtain ⟨rfl, h1⟩ := isBl_is h1
        exact (de_bi2B (bltB hX hw h1 (by decide) rfl (by decide)) (cl_min2 hX.calm) h2 h3 hx hy).congr fun ρ => rcvT fun d => rfl
      · cases h
  · split at h
    · rename_i hh; cases h; obtain ⟨rfl, rfl, h1, h2, h3⟩ := hh
      exact de_join h1 h2 h3 hx hy
    · split at h
      · rename_i hh; cases h; obtain ⟨rfl, rfl, h1, h2, h3⟩ := hh
        exact de_part h1 h2 h3 hx hy
      · cases h
  · split at h
    · rename_i hh; cases h; obtain ⟨rfl, h1, h2, h3, h4, h5⟩ := hh
      obtain ⟨rfl, g1⟩ := isBl_is h1
      obtain ⟨rfl, g2⟩ := isBl_is h2
      obtain ⟨rfl, g3⟩ := isBl_is h3
      refine (de_sdif hX.calm hw.room.units (bltB hX hw g1 (by decide) rfl (by decide)) (bltT hX hw g2 (by decide) rfl (by decide)) h4 h5 hx hy).congr fun ρ => ?_
      cases ma ρ with
      | ok d => cases d <;> first | rfl | (cases mb ρ with | ok e => cases e <;> rfl | exc c => rfl | stuck => rfl)
      | exc c => rfl
      | stuck => rfl
    · cases h
  · cases h
theorem plain_true {e : Expr} {env : PySem.Env} (h : plainT e = true) : ∀ whole, isTrue e env whole = (do let v ← whole; standAt e.pos; holding [v] (truthy v)) := by
  intro whole
  cases e <;> first | rfl | (cases h; done) | skip
  rename_i op a p
  cases op <;> first | rfl | cases h
theorem DT.congr {e : Expr} {m m' : Env → R Bool} (h : DT X W e m) (hm : ∀ ρ, m ρ = m' ρ) : DT X W e m' := by
  have : m = m' := funext hm
  rw [← this]; exact h
theorem vBi_dt (hX : InC c X) (hw : Wd X k) {b : Bi} (h : vBi c b e = some (x, y)) (hx : DE X W x ma) (hy : DE X W y mb) : DT X W e (fun ρ => boolR ((ma ρ).bind fun d => R.when (rcv b d) ((mb ρ).bind fun e => bi2 b d e))) := by
  have hd := vBi_de hX hw h hx hy
  cases hp : plainT e with
  | true => exact dt_val hd (plain_true hp)
  | false =>
    unfold vBi at h
    split at h
    · cases hp
    · split at h
      · rename_i hh; cases h
        exact (dt_cmp (op_cmpD hw.room.units hh.1) (bi2_noexc b) hx hy hh.2).congr fun ρ => by rw [rcvT (rcv_cmp hh.1)]
      · cases h
    · cases hp
    · cases hp
    · cases hp
    · cases hp
    · cases hp
    · cases hp
    · cases h
theorem vChn_de (hw : Wd X k) {o o' : Bi} (h : vChn o o' e = some (x, y, z)) (hx : DE X W x ma) (hy : DE X W y mb) (hz : DE X W z mc) :
    DE X W e (fun ρ => (ma ρ).bind fun d => (mb ρ).bind fun e => (boolR (bi2 o d e)).bind fun k => cond k ((mc ρ).bind fun f => bi2 o' e f) (.ok (.bool false))) ∧
    DT X W e (fun ρ => boolR ((ma ρ).bind fun d => (mb ρ).bind fun e => (boolR (bi2 o d e)).bind fun k => cond k ((mc ρ).bind fun f => bi2 o' e f) (.ok (.bool false)))) := by
  unfold vChn at h
  split at h
  · split at h
    · rename_i hh; cases h
      exact ⟨de_chn (op_cmpD hw.room.units hh.1) (op_cmpD hw.room.units hh.2.1) hx hy hz hh.2.2, dt_chn (op_cmpD hw.room.units hh.1) (op_cmpD hw.room.units hh.2.1) hx hy hz hh.2.2⟩
    · cases h
  · cases h
theorem sameC_de {d : PyData} (h : sameC d (vCst e) = true) : DE X W e (fun _ => .ok d) := by
  unfold vCst at h
  split at h
  · cases d <;> first | cases h | skip
    rename_i i _; rw [of_decide_eq_true h]; exact de_c pe_int rfl
  · cases d <;> first | cases h | skip
    rename_i i _; rw [eq_of_beq h]; exact de_c pe_bl rfl
  · cases d <;> first | cases h | skip
    exact de_c pe_non rfl
  · split at h
    · rename_i ho
      cases d <;> first | cases h | skip
      rename_i i _; rw [of_decide_eq_true h]
      exact de_c pe_str (if_pos ho)
    · cases d <;> cases h
  · cases d <;> cases h
theorem var_de (hX : InC c X) {i : Nat} (h : (match vVar e with
    | some x => (match c.N[i]? with | some y => decide (y = x) | none => false) && isVis c x
    | none => false) = true) : DE X W e (fun ρ => Sl.get ρ[i]?) ∧ plainT e = true := by
  cases e with
  | Name x p =>
    have h : ((match c.N[i]? with | some y => decide (y = x) | none => false) && isVis c x) = true := h
    rw [Bool.and_eq_true] at h
    obtain ⟨h1, h2⟩ := h
    have hi : X.N[i]? = some x := by
      rw [hX.N]
      cases q : c.N[i]? with
      | none => rw [q] at h1; cases h1
      | some y => rw [q] at h1; rw [of_decide_eq_true h1]
    obtain ⟨v1, v2, v3⟩ := hX.vis h2
    exact ⟨de_var hi v1 v2 v3, rfl⟩
  | _ => cases h
theorem glb_de (hX : InC c X) {x : Str} {d : PyData} (hu : (Use.glb x d).ok X k) (h : (match vVar e with
    | some y => decide (y = x) && isGl c x
    | none => false) = true) : DE X W e (fun _ => .ok d) := by
  cases e with
  | Name y p =>
    have h : (decide (y = x) && isGl c x) = true := h
    rw [Bool.and_eq_true] at h
    have := of_decide_eq_true h.1
    subst this
    obtain ⟨u, v, h1, h2, h3⟩ := hu
    exact de_c (pe_glob (hX.gl h.2).1 h1 h2 (hX.gl h.2).2) h3
  | _ => cases h
theorem InC.blk (hX : InC c X) {scope : Scope} (hk : scope.kind = .function) (s : Shared) (H : Hp) (C : Addr) (cl : List (Str × Addr)) (fp : List Addr) : InC (c.blk scope) (X.blk s H scope (compEnvC scope cl C X.env) fp) :=
  ⟨hX.N, (show relS scope X.env.scope = relS scope c.sc by rw [hX.sc]), rfl, hX.nd, hk, hX.calm⟩
theorem Wd.blk (hw : Wd X k) {scope : Scope} (s : Shared) (H : Hp) (C : Addr) (cl : List (Str × Addr)) (fp : List Addr) : Wd (X.blk s H scope (compEnvC scope cl C X.env) fp) k := ⟨hw.blt, hw.room⟩
theorem Use.blk {u : Use} (h : u.ok X k) {scope : Scope} (s : Shared) (H : Hp) (C : Addr) (cl : List (Str × Addr)) (fp : List Addr) : u.ok (X.blk s H scope (compEnvC scope cl C X.env) fp) k := by
  cases u <;> exact h
theorem not_set {e : Expr} (h : notSet e = true) (env : PySem.Env) : ∀ x, foldedSetIterable e env x = pure x := by
  intro x
  cases e <;> first | rfl | cases h
theorem lens_of {ps : Ps} : ∀ {ps : Ps} {es : List Expr} {ρ : Env} {ds : List PyData}, chkEs c ps es = true → evs ps ρ = .ok ds → ds.length = es.length := by
  intro ps
  induction ps using Ps.rec (motive_1 := fun _ => True) (motive_3 := fun _ => True) <;> first | trivial | skip
  · intro es ρ ds h e
    cases es with
    | nil => cases e; rfl
    | cons _ _ => cases h
  · rename_i a as _ ih
    intro es ρ ds h e
    cases es with
    | nil => cases h
    | cons x es =>
      have h : (chkE c a x && noStar x && chkEs c as es) = true := h
      rw [Bool.and_eq_true] at h
      have e : ((ev a ρ).bind fun d => (evs as ρ).bind fun ds => (.ok (d :: ds) : R (List PyData))) = .ok ds := e
      cases h1 : ev a ρ with
      | stuck => rw [h1] at e; cases e
      | exc _ => rw [h1] at e; cases e
      | ok d =>
        cases h2 : evs as ρ with
        | stuck => rw [h1, h2] at e; cases e
        | exc _ => rw [h1, h2] at e; cases e
        | ok ds' =>
          rw [h1, h2] at e
          cases e
          simp [ih h.2 h2]
theorem stars_of : ∀ {ps : Ps} {es : List Expr}, chkEs c ps es = true → es.all noStar = true := by
  intro ps
  induction ps using Ps.rec (motive_1 := fun _ => True) (motive_3 := fun _ => True) <;> first | trivial | skip
  · intro es h
    cases es with
    | nil => rfl
    | cons _ _ => cases h
  · rename_i a as _ ih
    intro es h
    cases es with
    | nil => cases h
    | cons x es =>
      have h : (chkE c a x && noStar x && chkEs c as es) = true := h
      rw [Bool.and_eq_true, Bool.and_eq_true] at h
      rw [List.all_cons, h.1.2, ih h.2]; rfl
theorem fn_de (hX : InC c X) (hw : Wd X k) (tk : Takes X W) {x : Str} {m : List PyData → R PyData} {ms : Env → R (List PyData)} {es : List Expr} {p pos : Pos} (hc : Cal X.prog X.w X.K X.mg X.base k x m) (hg : isGl c x = true) (hs : es.all noStar = true)
    (hn : es = [] → ∀ ρ, ms ρ = .ok []) (ha : DA X W es ms) : DE X W (.Call (.Name x p) es [] pos) (fun ρ => (ms ρ).bind m) := by
  cases es with
  | nil => exact (de_fn0 hc hw.room tk (hX.gl hg).1 (hX.gl hg).2).congr fun ρ => by rw [hn rfl ρ]; rfl
  | cons e es => exact de_fn hc hw.room tk (hX.gl hg).1 (hX.gl hg).2 hs ha
end
end QB
/-! ### the check is sound -/
namespace QB
open PySem L2
abbrev OkU (X : Cx) (k : Nat) (l : List Use) : Prop := ∀ u ∈ l, u.ok X k
theorem OkU.l {X : Cx} {k : Nat} {l l' : List Use} (h : OkU X k (l ++ l')) : OkU X k l := fun u hu => h u (List.mem_append_left _ hu)
theorem OkU.r {X : Cx} {k : Nat} {l l' : List Use} (h : OkU X k (l ++ l')) : OkU X k l' := fun u hu => h u (List.mem_append_right _ hu)
theorem OkU.blk {X : Cx} {k : Nat} {l : List Use} (h : OkU X k l) {scope : Scope} (s : Shared) (H : Hp) (C : Addr) (cl : List (Str × Addr)) (fp : List Addr) : OkU (X.blk s H scope (compEnvC scope cl C X.env) fp) k l := fun u hu => Use.blk (h u hu) s H C cl fp
theorem takes_no {X : Cx} : Takes X W0 := fun _ _ ⟨_, _, _, _, _, _, _, _, _, _, _, _, _, _, _, _, w⟩ => w.elim
theorem pts_yes {X : Cx} {mg : Str → Option Value} : PTs X [] (tDT mg W0 fun _ => .ok true) := ⟨fun pins s σ H Q I h => pts_nil.run pins s σ H Q I (by
  obtain ⟨ρ, Hs, r, h⟩ := h
  exact h true Hs H (Ext.refl r.sub) rfl)⟩
theorem comp_ok {c : Cc} {X : Cx} (hX : InC c X) {tg : Tg} {own : List (Str × Nat)} {v : CompV} (h : compB c tg own v = true) : BlkOk X.N X.env.scope v.scope own ∧ v.scope.kind = .function ∧ tgB (c.blk v.scope) tg v.tg = true ∧ (∀ i ∈ tg.slots, i ∈ own.map (·.2)) ∧ notSet v.iter = true := by
  unfold compB at h
  simp only [Bool.and_eq_true, List.all_eq_true, decide_eq_true_eq] at h
  obtain ⟨⟨⟨h1, h2⟩, h3⟩, h4⟩ := h
  have b := blkOk_by h1
  refine ⟨?_, b.kind, h2, h3, h4⟩
  rw [hX.N, hX.sc]; exact b
theorem boolR_when {c : Bool} {r : R PyData} : boolR (R.when c r) = R.when c (boolR r) := by cases c <;> rfl
theorem and_nil {ps : Ps} {c : Cc} (h : chkEs c ps [] = true) (ρ : Env) : evs ps ρ = .ok [] := by
  cases ps with
  | nil => rfl
  | cons a as => cases h
variable {k : Nat}
mutual
theorem sndE : ∀ (p : P) {c : Cc} {X : Cx} {W : WX} {e : Expr}, InC c X → Wd X k → Takes X W → OkU X k (usesP p) → chkE c p e = true → DE X W e (fun ρ => ev p ρ)
  | .cst d, c, X, W, e, hX, hw, tk, hu, h => sameC_de h
  | .var i, c, X, W, e, hX, hw, tk, hu, h => (var_de hX h).1
  | .glb x d, c, X, W, e, hX, hw, tk, hu, h => glb_de hX (hu _ (by simp [usesP])) h
  | .un u a, c, X, W, e, hX, hw, tk, hu, h => by
    rw [chkE] at h
    split at h
    · rename_i x hv
      exact vUn_de hX hw hv (sndE a hX hw tk hu h)
    · cases h
  | .bi b a a', c, X, W, e, hX, hw, tk, hu, h => by
    rw [chkE] at h
    split at h
    · rename_i x y hv
      rw [Bool.and_eq_true] at h
      exact vBi_de hX hw hv (sndE a hX hw tk (OkU.l hu) h.1) (sndE a' hX hw tk (OkU.r hu) h.2)
    · cases h
  | .chn o o' a a' a2, c, X, W, e, hX, hw, tk, hu, h => by
    rw [chkE] at h
    split at h
    · rename_i x y z hv
      rw [Bool.and_eq_true, Bool.and_eq_true] at h
      exact (vChn_de hw hv (sndE a hX hw tk (OkU.l hu) h.1.1) (sndE a' hX hw tk (OkU.l (OkU.r hu)) h.1.2) (sndE a2 hX hw tk (OkU.r (OkU.r hu)) h.2)).1
    · cases h
  | .repl _ _ _, c, X, W, e, hX, hw, tk, hu, h => by rw [chkE] at h; cases h
  | .nt a, c, X, W, e, hX, hw, tk, hu, h => by
    rw [chkE] at h
    split at h
    · rename_i x hv
      have := sndE a hX hw tk hu h
      unfold vNot at hv
      split at hv
      · cases hv; exact de_not this
      · cases hv
    · cases h
  | .an a b, c, X, W, e, hX, hw, tk, hu, h => by
    rw [chkE] at h
    split at h
    · rename_i x y hv
      rw [Bool.and_eq_true] at h
      have h1 := sndE a hX hw tk (OkU.l hu) h.1
      have h2 := sndE b hX hw tk (OkU.r hu) h.2
      unfold vAnd at hv
      split at hv
      · cases hv; exact de_and h1 (de_one h2)
      · cases hv; exact de_and h1 h2
      · cases hv
    · cases h
  | .oo a b, c, X, W, e, hX, hw, tk, hu, h => by
    rw [chkE] at h
    split at h
    · rename_i x y hv
      rw [Bool.and_eq_true] at h
      have h1 := sndE a hX hw tk (OkU.l hu) h.1
      have h2 := sndE b hX hw tk (OkU.r hu) h.2
      unfold vOr at hv
      split at hv
      · cases hv; exact de_or h1 (de_one h2)
      · cases hv; exact de_or h1 h2
      · cases hv
    · cases h
  | .ite t a b, c, X, W, e, hX, hw, tk, hu, h => by
    rw [chkE] at h
    split at h
    · rename_i x y z hv
      rw [Bool.and_eq_true, Bool.and_eq_true] at h
      have h0 := (sndT t hX hw tk (OkU.l hu) h.1.1).1
      have h1 := sndE a hX hw tk (OkU.l (OkU.r hu)) h.1.2
      have h2 := sndE b hX hw tk (OkU.r (OkU.r hu)) h.2
      unfold vIte at hv
      split at hv
      · cases hv; exact de_if h0 h1 h2
      · cases hv
    · cases h
  | .tup as, c, X, W, e, hX, hw, tk, hu, h => by
    rw [chkE] at h
    split at h
    · rename_i es hv
      rw [Bool.and_eq_true] at h
      have h1 := sndEs as hX hw tk hu h.1
      unfold vTup at hv
      split at hv
      · cases hv
        exact de_tup (fun ρ ds q => by rw [lens_of (ps := as) h.1 q]; exact Nat.le_trans (of_decide_eq_true h.2) (by decide)) h1
      · cases hv
    · cases h
  | .lst as, c, X, W, e, hX, hw, tk, hu, h => by
    rw [chkE] at h
    split at h
    · rename_i es hv
      rw [Bool.and_eq_true] at h
      have h1 := sndEs as hX hw tk hu h.1
      unfold vLst at hv
      split at hv
      · cases hv
        exact de_lst (fun ρ ds q => by rw [lens_of (ps := as) h.1 q]; exact Nat.le_trans (of_decide_eq_true h.2) (by decide)) h1
      · cases hv
    · cases h
  | .lstRng (.rng1 a), c, X, W, e, hX, hw, tk, hu, h => by
    rw [chkE] at h
    split at h
    · rename_i x hv
      have h1 := sndE a hX hw tk hu h
      unfold vLR at hv
      split at hv
      · split at hv
        · rename_i hh
          cases hv
          simp only [Bool.and_eq_true, List.all_cons] at hh
          obtain ⟨rfl, g1⟩ := isBl_is hh.1.1
          obtain ⟨rfl, g2⟩ := isBl_is hh.1.2
          exact de_lstRng1 hX.calm (bltT hX hw g1 (by decide) rfl (by decide)) (bltT hX hw g2 (by decide) rfl (by decide)) hh.2.1 h1
        · cases hv
      · cases hv
    · cases h
  | .lstRng (.rng2 a b), c, X, W, e, hX, hw, tk, hu, h => by
    rw [chkE] at h
    split at h
    · rename_i x y hv
      rw [Bool.and_eq_true] at h
      have h1 := sndE a hX hw tk (OkU.l hu) h.1
      have h2 := sndE b hX hw tk (OkU.r hu) h.2
      unfold vLR at hv
      split at hv
      · split at hv
        · rename_i hh
          cases hv
          simp only [Bool.and_eq_true, List.all_cons] at hh
          obtain ⟨rfl, g1⟩ := isBl_is hh.1.1
          obtain ⟨rfl, g2⟩ := isBl_is hh.1.2
          exact de_lstRng2 hX.calm (bltT hX hw g1 (by decide) rfl (by decide)) (bltT hX hw g2 (by decide) rfl (by decide)) hh.2.1 hh.2.2.1 h1 h2
        · cases hv
      · cases hv
    · cases h
  | .lstRng (.seq _), c, X, W, e, hX, hw, tk, hu, h => by simp [chkE] at h
  | .lstRng (.zip2 _ _), c, X, W, e, hX, hw, tk, hu, h => by simp [chkE] at h
  | .lstRng (.zip3 a b d), c, X, W, e, hX, hw, tk, hu, h => by
    rw [chkE] at h
    split at h
    · rename_i x y z hv
      rw [Bool.and_eq_true, Bool.and_eq_true] at h
      have h1 := sndE a hX hw tk (OkU.l hu) h.1.1
      have h2 := sndE b hX hw tk (OkU.l (OkU.r hu)) h.1.2
      have h3 := sndE d hX hw tk (OkU.r (OkU.r hu)) h.2
      unfold vLZ at hv
      split at hv
      · split at hv
        · rename_i hh
          cases hv
          simp only [Bool.and_eq_true] at hh
          obtain ⟨rfl, g1⟩ := isBl_is hh.1.1.1.1
          obtain ⟨rfl, g2⟩ := isBl_is hh.1.1.1.2
          exact de_lz hX.calm (bltT hX hw g1 (by decide) rfl (by decide)) (bltT hX hw g2 (by decide) rfl (by decide)) hh.1.1.2 hh.1.2 hh.2 h1 h2 h3
        · cases hv
      · cases hv
    · cases h
  | .lstRng (.enm _), c, X, W, e, hX, hw, tk, hu, h => by simp [chkE] at h
  | .fn x m as, c, X, W, e, hX, hw, tk, hu, h => by
    rw [chkE] at h
    split at h
    · rename_i y es hv
      rw [Bool.and_eq_true, Bool.and_eq_true] at h
      have h1 := sndEs as hX hw tk (fun u q => hu u (List.mem_cons_of_mem _ q)) h.2
      have hc : Cal X.prog X.w X.K X.mg X.base k x m := hu _ (List.mem_cons_self ..)
      have := of_decide_eq_true h.1.1
      subst this
      unfold vFn at hv
      split at hv
      · cases hv
        exact fn_de hX hw tk hc h.1.2 (stars_of h.2) (fun q ρ => by subst q; exact and_nil h.2 ρ) h1
      · cases hv
    · cases h
  | .comp it tg elt own, c, X, W, e, hX, hw, tk, hu, h => by
    rw [chkE] at h
    split at h
    · rename_i v hv
      simp only [Bool.and_eq_true] at h
      obtain ⟨⟨⟨h1, h2⟩, h3⟩, h4⟩ := h
      obtain ⟨b1, b2, b3, b4, b5⟩ := comp_ok hX h1
      have hi := sndI it hX hw tk (OkU.l hu) h2
      have he := fun (s : Shared) (H : Hp) (C : Addr) (cl : List (Str × Addr)) (fp : List Addr) => sndE elt (hX.blk b2 s H C cl fp) (hw.blk s H C cl fp) (takes_no (X := X.blk s H v.scope (compEnvC v.scope cl C X.env) fp)) (OkU.blk (OkU.r hu) s H C cl fp) h4
      unfold vComp at hv
      split at hv
      · cases hv
        have h3 := List.isEmpty_iff.mp h3
        subst h3
        exact (de_comp (mt := fun _ => .ok true) (me := fun ρ => ev elt ρ) hX.calm hX.nd hi b1 b4 (fun s H C cl fp => dg_of (hX.blk b2 s H C cl fp) tg _ b3) (fun s H C cl fp => pts_yes) he (not_set b5 _)).congr fun ρ => rfl
      · cases hv
    · cases h
  | .compT it tg t elt own, c, X, W, e, hX, hw, tk, hu, h => by
    rw [chkE] at h
    split at h
    · rename_i v hv
      split at h
      · rename_i x hx
        simp only [Bool.and_eq_true] at h
        obtain ⟨⟨⟨h1, h2⟩, h3⟩, h4⟩ := h
        obtain ⟨b1, b2, b3, b4, b5⟩ := comp_ok hX h1
        have hi := sndI it hX hw tk (OkU.l hu) h2
        have he := fun (s : Shared) (H : Hp) (C : Addr) (cl : List (Str × Addr)) (fp : List Addr) => sndE elt (hX.blk b2 s H C cl fp) (hw.blk s H C cl fp) (takes_no (X := X.blk s H v.scope (compEnvC v.scope cl C X.env) fp)) (OkU.blk (OkU.r (OkU.r hu)) s H C cl fp) h4
        have ht := fun (s : Shared) (H : Hp) (C : Addr) (cl : List (Str × Addr)) (fp : List Addr) => sndT t (hX.blk b2 s H C cl fp) (hw.blk s H C cl fp) (takes_no (X := X.blk s H v.scope (compEnvC v.scope cl C X.env) fp)) (OkU.blk (OkU.l (OkU.r hu)) s H C cl fp) h3
        unfold vComp at hv
        split at hv
        · cases hv
          have hx : _ = [x] := hx
          subst hx
          exact (de_comp (mt := fun ρ => boolR (ev t ρ)) (me := fun ρ => ev elt ρ) hX.calm hX.nd hi b1 b4 (fun s H C cl fp => dg_of (hX.blk b2 s H C cl fp) tg _ b3) (fun s H C cl fp => pts_one (ht s H C cl fp).1.pt) he (not_set b5 _)).congr fun ρ => rfl
        · cases hv
      · cases h
    · cases h
theorem sndT : ∀ (p : P) {c : Cc} {X : Cx} {W : WX} {e : Expr}, InC c X → Wd X k → Takes X W → OkU X k (usesP p) → chkT c p e = true → DT X W e (fun ρ => boolR (ev p ρ)) ∧ (∀ op vs pos, e = .BoolOp op vs pos → DW X W e (fun ρ => boolR (ev p ρ)))
  | .nt a, c, X, W, e, hX, hw, tk, hu, h => by
    rw [chkT] at h
    split at h
    · rename_i x hv
      have := (sndT a hX hw tk hu h).1
      unfold vNot at hv
      split at hv
      · cases hv; exact ⟨dt_not this, fun _ _ _ z => by cases z⟩
      · cases hv
    · cases h
  | .an a b, c, X, W, e, hX, hw, tk, hu, h => by
    rw [chkT] at h
    split at h
    · rename_i x y hv
      rw [Bool.and_eq_true] at h
      have h1 := sndT a hX hw tk (OkU.l hu) h.1
      have h2 := sndT b hX hw tk (OkU.r hu) h.2
      have hm : ∀ ρ, ((boolR (ev a ρ)).bind fun k => cond k (boolR (ev b ρ)) (.ok false)) = boolR (ev (.an a b) ρ) := fun ρ => by
        show _ = boolR ((boolR (ev a ρ)).bind fun k => cond k (ev b ρ) (.ok (.bool false)))
        rw [boolR_bind]
        congr 1
        funext k
        cases k <;> rfl
      unfold vAnd at hv
      split at hv
      · cases hv
        have q := dw_and h1.1 (dw_and1 h2.1 (pos := by assumption))
        rw [funext hm] at q
        exact ⟨q.dt, fun _ _ _ _ => q⟩
      · cases hv
        have q := dw_and h1.1 (h2.2 _ _ _ rfl)
        rw [funext hm] at q
        exact ⟨q.dt, fun _ _ _ _ => q⟩
      · cases hv
    · cases h
  | .oo a b, c, X, W, e, hX, hw, tk, hu, h => by
    rw [chkT] at h
    split at h
    · rename_i x y hv
      rw [Bool.and_eq_true] at h
      have h1 := sndT a hX hw tk (OkU.l hu) h.1
      have h2 := sndT b hX hw tk (OkU.r hu) h.2
      have hm : ∀ ρ, ((boolR (ev a ρ)).bind fun k => cond k (.ok true) (boolR (ev b ρ))) = boolR (ev (.oo a b) ρ) := fun ρ => by
        show _ = boolR ((boolR (ev a ρ)).bind fun k => cond k (.ok (.bool true)) (ev b ρ))
        rw [boolR_bind]
        congr 1
        funext k
        cases k <;> rfl
      unfold vOr at hv
      split at hv
      · cases hv
        have q := dw_or h1.1 (dw_or1 h2.1 (pos := by assumption))
        rw [funext hm] at q
        exact ⟨q.dt, fun _ _ _ _ => q⟩
      · cases hv
        have q := dw_or h1.1 (h2.2 _ _ _ rfl)
        rw [funext hm] at q
        exact ⟨q.dt, fun _ _ _ _ => q⟩
      · cases hv
    · cases h
  | .bi b a a', c, X, W, e, hX, hw, tk, hu, h => by
    rw [chkT] at h
    split at h
    · rename_i x y hv
      rw [Bool.and_eq_true] at h
      refine ⟨vBi_dt hX hw hv (sndE a hX hw tk (OkU.l hu) h.1) (sndE a' hX hw tk (OkU.r hu) h.2), fun _ _ _ z => ?_⟩
      rw [z] at hv
      cases hv
    · cases h
  | .chn o o' a a' a2, c, X, W, e, hX, hw, tk, hu, h => by
    rw [chkT] at h
    split at h
    · rename_i x y z hv
      rw [Bool.and_eq_true, Bool.and_eq_true] at h
      refine ⟨(vChn_de hw hv (sndE a hX hw tk (OkU.l hu) h.1.1) (sndE a' hX hw tk (OkU.l (OkU.r hu)) h.1.2) (sndE a2 hX hw tk (OkU.r (OkU.r hu)) h.2)).2, fun _ _ _ z => ?_⟩
      rw [z] at hv
      cases hv
    · cases h
  | .un u a, c, X, W, e, hX, hw, tk, hu, h => by
    rw [chkT, Bool.and_eq_true] at h
    obtain ⟨hp, h⟩ := h
    split at h
    · rename_i x hv
      refine ⟨dt_val (vUn_de hX hw hv (sndE a hX hw tk hu h)) (plain_true hp), fun _ _ _ z => ?_⟩
      rw [z] at hp
      cases hp
    · cases h
  | .var i, c, X, W, e, hX, hw, tk, hu, h => by
    rw [chkT] at h
    have q := var_de (W := W) hX h
    refine ⟨dt_val q.1 (plain_true q.2), fun _ _ _ z => ?_⟩
    rw [z] at q
    cases q.2
  | .fn x m as, c, X, W, e, hX, hw, tk, hu, h => by
    rw [chkT] at h
    split at h
    · rename_i y es hv
      rw [Bool.and_eq_true, Bool.and_eq_true] at h
      have h1 := sndEs as hX hw tk (fun u q => hu u (List.mem_cons_of_mem _ q)) h.2
      have hc : Cal X.prog X.w X.K X.mg X.base k x m := hu _ (List.mem_cons_self ..)
      have := of_decide_eq_true h.1.1
      subst this
      unfold vFn at hv
      split at hv
      · cases hv
        exact ⟨dt_val (fn_de hX hw tk hc h.1.2 (stars_of h.2) (fun q ρ => by subst q; exact and_nil h.2 ρ) h1) (plain_true rfl), fun _ _ _ z => by cases z⟩
      · cases hv
    · cases h
  | .cst _, c, X, W, e, hX, hw, tk, hu, h => by simp [chkT] at h
  | .glb _ _, c, X, W, e, hX, hw, tk, hu, h => by simp [chkT] at h
  | .repl _ _ _, c, X, W, e, hX, hw, tk, hu, h => by simp [chkT] at h
  | .ite _ _ _, c, X, W, e, hX, hw, tk, hu, h => by simp [chkT] at h
  | .tup _, c, X, W, e, hX, hw, tk, hu, h => by simp [chkT] at h
  | .lst _, c, X, W, e, hX, hw, tk, hu, h => by simp [chkT] at h
  | .lstRng _, c, X, W, e, hX, hw, tk, hu, h => by simp [chkT] at h
  | .comp _ _ _ _, c, X, W, e, hX, hw, tk, hu, h => by simp [chkT] at h
  | .compT _ _ _ _ _, c, X, W, e, hX, hw, tk, hu, h => by simp [chkT] at h
theorem sndEs : ∀ (ps : Ps) {c : Cc} {X : Cx} {W : WX} {es : List Expr}, InC c X → Wd X k → Takes X W → OkU X k (usesPs ps) → chkEs c ps es = true → DA X W es (fun ρ => evs ps ρ)
  | .nil, c, X, W, es, hX, hw, tk, hu, h => by
    cases es with
    | nil => exact da_nil
    | cons _ _ => cases h
  | .cons a as, c, X, W, es, hX, hw, tk, hu, h => by
    cases es with
    | nil => cases h
    | cons e es =>
      have h : (chkE c a e && noStar e && chkEs c as es) = true := h
      rw [Bool.and_eq_true, Bool.and_eq_true] at h
      exact da_cons h.1.2 (sndE a hX hw tk (OkU.l hu) h.1.1) (sndEs as hX hw tk (OkU.r hu) h.2)
theorem sndI : ∀ (it : It) {c : Cc} {X : Cx} {W : WX} {tg e : Expr}, InC c X → Wd X k → Takes X W → OkU X k (usesI it) → chkI c it tg e = true → DI X W tg e (fun ρ => evI it ρ)
  | .seq a, c, X, W, tg, e, hX, hw, tk, hu, h => di_seq (sndE a hX hw tk hu h)
  | .rng1 a, c, X, W, tg, e, hX, hw, tk, hu, h => by
    rw [chkI] at h
    split at h
    · rename_i x hv
      have h1 := sndE a hX hw tk hu h
      unfold vRng at hv
      split at hv
      · split at hv
        · rename_i hh
          cases hv
          simp only [Bool.and_eq_true, List.all_cons] at hh
          obtain ⟨rfl, hg⟩ := isBl_is hh.1
          exact di_rng1 (bltT hX hw hg (by decide) rfl (by decide)) hh.2.1 h1
        · cases hv
      · cases hv
    · cases h
  | .rng2 a b, c, X, W, tg, e, hX, hw, tk, hu, h => by
    rw [chkI] at h
    split at h
    · rename_i x y hv
      rw [Bool.and_eq_true] at h
      have h1 := sndE a hX hw tk (OkU.l hu) h.1
      have h2 := sndE b hX hw tk (OkU.r hu) h.2
      unfold vRng at hv
      split at hv
      · split at hv
        · rename_i hh
          cases hv
          simp only [Bool.and_eq_true, List.all_cons] at hh
          obtain ⟨rfl, hg⟩ := isBl_is hh.1
          exact di_rng2 (bltT hX hw hg (by decide) rfl (by decide)) hh.2.1 hh.2.2.1 h1 h2
        · cases hv
      · cases hv
    · cases h
  | .zip2 a b, c, X, W, tg, e, hX, hw, tk, hu, h => by
    rw [chkI, Bool.and_eq_true] at h
    obtain ⟨ht, h⟩ := h
    split at h
    · rename_i x y hv
      rw [Bool.and_eq_true] at h
      have h1 := sndE a hX hw tk (OkU.l hu) h.1
      have h2 := sndE b hX hw tk (OkU.r hu) h.2
      unfold vRng at hv
      split at hv
      · split at hv
        · rename_i hh
          cases hv
          simp only [Bool.and_eq_true, List.all_cons] at hh
          obtain ⟨rfl, hg⟩ := isBl_is hh.1
          unfold isTup at ht
          split at ht
          · exact di_zip2 (bltT hX hw hg (by decide) rfl (by decide)) hh.2.1 hh.2.2.1 h1 h2
          · cases ht
        · cases hv
      · cases hv
    · cases h
  | .zip3 _ _ _, c, X, W, tg, e, hX, hw, tk, hu, h => by rw [chkI] at h; cases h
  | .enm a, c, X, W, tg, e, hX, hw, tk, hu, h => by
    rw [chkI, Bool.and_eq_true] at h
    obtain ⟨ht, h⟩ := h
    split at h
    · rename_i x hv
      have h1 := sndE a hX hw tk hu h
      unfold vRng at hv
      split at hv
      · split at hv
        · rename_i hh
          cases hv
          simp only [Bool.and_eq_true, List.all_cons] at hh
          obtain ⟨rfl, hg⟩ := isBl_is hh.1
          unfold isTup at ht
          split at ht
          · exact di_enm (bltT hX hw hg (by decide) rfl (by decide)) hh.2.1 h1
          · cases ht
        · cases hv
      · cases hv
    · cases h
end
end QB
/-! ### statements and defs -/
namespace QB
open PySem L2
def isStar : Expr → Bool
  | .Starred .. => true
  | _ => false
def swNames (sc : Scope) (line : Nat) : List Expr → List Str
  | [] => []
  | .Name id pos :: r => if (sc.names.lookup id == some .local && pos.line == line) = true then id :: swNames sc line r else swNames sc line r
  | _ :: r => swNames sc line r
def swF (sc : Scope) (ts vs : List Expr) : Option (Option (List Str)) :=
  let names := swNames sc ((ts.head?.map (·.pos.line)).getD 0) ts
  if (!(ts.length == 2 || ts.length == 3) || vs.length != ts.length) = true then some none
  else if vs.any isStar = true then some none
  else if (names.length != ts.length) = true then some none
  else if decide names.Nodup = false then none
  else if vs.all (foldedForSure 8) = true then some none
  else if vs.all (constantsAlone 8) = true then none
  else some (some names)
theorem swNames_is (env : PySem.Env) (line : Nat) (f : Expr → Option Str) (h1 : ∀ id pos, f (.Name id pos) = if (env.scope.names.lookup id == some .local && pos.line == line) = true then some id else none) (h2 : ∀ e, (match e with | .Name _ _ => false | _ => true) = true → f e = none) :
    ∀ (ts : List Expr), ts.filterMap f = swNames env.scope line ts
  | [] => rfl
  | e :: r => by
    have ih := swNames_is env line f h1 h2 r
    cases e with
    | Name id pos =>
      have e1 : swNames env.scope line (.Name id pos :: r) = if (env.scope.names.lookup id == some .local && pos.line == line) = true then id :: swNames env.scope line r else swNames env.scope line r := rfl
      rw [List.filterMap_cons, e1, ih, h1]
      cases (env.scope.names.lookup id == some NameKind.local && pos.line == line) <;> rfl
    | _ => rw [List.filterMap_cons, h2 _ rfl]; exact ih
theorem any_is {f : Expr → Bool} (h : ∀ e, f e = isStar e) (l : List Expr) : l.any f = l.any isStar := by rw [funext h]
theorem dups_no : ∀ (l : List Str), l.Nodup → l.eraseDups = l
  | [], _ => by simp
  | a :: l, h => by
    rw [List.nodup_cons] at h
    rw [List.eraseDups_cons]
    have e : (l.filter fun b => !b == a) = l := List.filter_eq_self.mpr fun b hb => by
      have : b ≠ a := fun z => h.1 (z ▸ hb)
      simp [this]
    rw [e, dups_no l h.2]
theorem swF_is {env : PySem.Env} (hk : env.scope.kind = .function) {ts vs : List Expr} {kt k2 : Nat} {pt p2 : Pos} {r : Option (List Str)} (h : swF env.scope ts vs = some r) : swappedStores [.Tuple ts kt pt] (.Tuple vs k2 p2) env = pure r := by
  have hb : env.blockKind = .function := by unfold Env.blockKind; rw [hk]; rfl
  have hf : (ScopeKind.function != ScopeKind.function) = false := rfl
  unfold swF at h
  unfold swappedStores
  simp only [hb, hf, Bool.or_false]
  rw [any_is (fun e => by cases e <;> rfl), swNames_is env ((ts.head?.map (·.pos.line)).getD 0) _ (fun id pos => rfl) (fun e he => by cases e <;> first | rfl | cases he)]
  dsimp only at h
  generalize swNames env.scope ((ts.head?.map (·.pos.line)).getD 0) ts = names at h ⊢
  generalize (!(ts.length == 2 || ts.length == 3) || vs.length != ts.length) = b1 at h ⊢
  generalize vs.any isStar = b2 at h ⊢
  by_cases hn : names.Nodup
  case neg =>
    rw [show decide names.Nodup = false from decide_eq_false hn] at h
    generalize (names.length != ts.length) = b3 at h ⊢
    cases b1 <;> cases b2 <;> cases b3 <;> first | (cases h; rfl) | cases h
  rw [show decide names.Nodup = true from decide_eq_true hn] at h
  rw [dups_no names hn, show (names.length != names.length) = false by simp, Bool.or_false]
  generalize (names.length != ts.length) = b3 at h ⊢
  generalize vs.all (foldedForSure 8) = b4 at h ⊢
  generalize vs.all (constantsAlone 8) = b5 at h ⊢
  cases b1 <;> cases b2 <;> cases b3 <;> cases b4 <;> cases b5 <;> first | (cases h; rfl) | cases h
end QB
/-! ### the check of statements and defs -/
namespace QB
open PySem L2
def isPass : Stmt → Bool
  | .Pass _ => true
  | _ => false
def vOwn : Stmt → Option (Str × List Expr)
  | .Assign [.Name x _] (.List es _) _ => some (x, es)
  | _ => none
def vOwnA : Stmt → Option (Str × Expr × Expr)
  | .Assign [.Name x _] (.BinOp a .Add b _) _ => some (x, a, b)
  | _ => none
def isCo : P → Bool
  | .comp _ _ _ _ => true
  | .compT _ _ _ _ _ => true
  | _ => false
def vAsg : Stmt → Option (Expr × Expr)
  | .Assign [t] e _ => some (t, e)
  | _ => none
def vPar : Stmt → Option (List Expr × List Expr)
  | .Assign [.Tuple ts _ _] (.Tuple vs _ _) _ => some (ts, vs)
  | _ => none
def vApp (n : Str) : Stmt → Option (Str × Expr)
  | .Expr (.Call (.Attribute (.Name x _) m ap) [e] [] cp) _ => if m = n ∧ noStar e = true ∧ (ap.endLine == cp.line) = true then some (x, e) else none
  | _ => none
def vEvl : Stmt → Option Expr
  | .Expr e _ => some e
  | _ => none
def vIf : Stmt → Option (Expr × List Stmt × List Stmt)
  | .If c a b _ => some (c, a, b)
  | _ => none
def vFor : Stmt → Option (Expr × Expr × List Stmt)
  | .For t i b [] _ => some (t, i, b)
  | _ => none
def vWhl : Stmt → Option (Expr × List Stmt)
  | .While t b [] _ => some (t, b)
  | _ => none
def vRet : Stmt → Option Expr
  | .Return (some e) _ => some e
  | _ => none
def vRai : Stmt → Option Str
  | .Raise (some (.Call (.Name x _) [.Constant (.str _) _ _] [] _)) none _ => some x
  | _ => none
def noPar : Expr → Expr → Bool
  | .Tuple .., .Tuple .. => false
  | .List .., .Tuple .. => false
  | _, _ => true
def swapB (c : Cc) : Expr → Expr → Bool
  | .Name y py, .ListComp _ _ scope p => c.sc.names.lookup y == some .local && py.line == p.line && !(scope.names.any fun (n, k) => n == y && (k == .local || k == .cell))
  | _, _ => false
def swapNo (c : Cc) (t e : Expr) : Bool := noComp e || (match t, e with
  | .Name y py, .ListComp a b scope p => !swapB c (.Name y py) (.ListComp a b scope p)
  | _, _ => false)
def atN (c : Cc) (i : Nat) (x : Str) : Bool := match c.N[i]? with
  | some y => decide (y = x)
  | none => false
def asgOk (c : Cc) (tg : Tg) (t e : Expr) : Bool := tgB c tg t && noStar t && swapNo c t e && noPar t e
def asgC (c : Cc) (tg : Tg) (t e : Expr) : Bool := match tg, t with
  | .nm i, .Name y _ => atN c i y && (match c.sc.names.lookup y with | some .local => true | _ => false) && swapB c t e
  | _, _ => false
def namesB (c : Cc) : List Nat → List Expr → Bool
  | [], [] => true
  | i :: is, .Name x _ :: ts => atN c i x && isLoc c x && namesB c is ts
  | _, _ => false
def isLc (c : Cc) (x : Str) : Bool := match c.sc.names.lookup x with | some .local => true | _ => false
def parB (c : Cc) (is : List Nat) (ts vs : List Expr) : Bool := match swF c.sc ts vs with
  | none => false
  | some none => namesB c is ts && decide (is.length ≤ 1000)
  | some (some names) => match is, ts, vs with
    | [i, j], [.Name x _, .Name y _], [_, _] => atN c i x && atN c j y && decide (i ≠ j) && isLc c x && isLc c y && decide (names = [x, y])
    | [i, j, l], [.Name x _, .Name y _, .Name z _], [_, _, _] => atN c i x && atN c j y && atN c l z && decide (i ≠ j) && decide (i ≠ l) && decide (j ≠ l) && isLc c x && isLc c y && isLc c z && decide (names = [x, y, z])
    | _, _, _ => false
mutual
def chkS (c : Cc) : S → Stmt → Bool
  | .pass, st => isPass st
  | .own i as, st => match vOwn st with
    | some (x, es) => atN c i x && isLoc c x && chkEs c as es && decide (es.length ≤ 1000)
    | none => false
  | .ownA i a b, st => match vOwnA st with
    | some (x, ea, eb) => atN c i x && isLoc c x && chkE c a ea && chkE c b eb
    | none => false
  | .ownC i p, st => match vAsg st with
    | some (t, e) => chkE c p e && asgC c (.nm i) t e && isCo p
    | none => false
  | .asg tg p, st => match vAsg st with
    | some (t, e) => chkE c p e && (asgOk c tg t e || asgC c tg t e)
    | none => false
  | .par is ps, st => match vPar st with
    | some (ts, vs) => chkEs c ps vs && parB c is ts vs
    | none => false
  | .app i p, st => match vApp "append" st with
    | some (x, e) => atN c i x && isVis c x && chkE c p e
    | none => false
  | .ext i p, st => match vApp "extend" st with
    | some (x, e) => atN c i x && isVis c x && chkE c p e
    | none => false
  | .evl p, st => match vEvl st with
    | some e => noComp e && chkE c p e
    | none => false
  | .iff t a b, st => match vIf st with
    | some (te, l1, l2) => chkT c t te && chkSs c a l1 && chkSs c b l2
    | none => false
  | .forr it tg b, st => match vFor st with
    | some (te, ie, l) => chkI c it te ie && tgB c tg te && notSet ie && chkSs c b l
    | none => false
  | .whl _ t b, st => match vWhl st with
    | some (te, l) => chkT c t te && chkSs c b l
    | none => false
  | .ret p, st => match vRet st with
    | some e => chkE c p e
    | none => false
  | .rai x, st => match vRai st with
    | some y => decide (y = x) && isGl c x
    | none => false
  | .frz _, _ => false
  | .seq _ _, _ => false
  | .nil, _ => false
def chkSs (c : Cc) : S → List Stmt → Bool
  | .nil, l => l.isEmpty
  | .seq (.frz _) b, l => chkSs c b l
  | .seq a b, l => match l with
    | st :: l => chkS c a st && chkSs c b l
    | [] => false
  | _, _ => false
end
section
variable {c : Cc} {X : Cx} {W : WX} {k : Nat}
theorem at_N (hX : InC c X) {i : Nat} {x : Str} (h : atN c i x = true) : X.N[i]? = some x := by
  unfold atN at h
  rw [hX.N]
  cases q : c.N[i]? with
  | none => rw [q] at h; cases h
  | some y => rw [q] at h; rw [of_decide_eq_true h]
theorem is_Lc (hX : InC c X) {x : Str} (h : isLc c x = true) : X.env.scope.names.lookup x = some .local := by
  unfold isLc at h
  rw [hX.sc]
  split at h
  · assumption
  · cases h
theorem env_kind (hX : InC c X) : X.env.scope.kind = .function := by rw [hX.sc]; exact hX.kind
theorem swap_no (hX : InC c X) {t e : Expr} {l : Nat} (h : swapNo c t e = true) : swapsWithSole [t] e l X.env = pure false := by
  unfold swapNo at h
  rw [Bool.or_eq_true] at h
  rcases h with h | h
  · exact swaps_no h
  · split at h
    · refine Eq.trans (swaps_comp (l := l) (env_kind hX)) ?_
      rw [Bool.not_eq_true'] at h
      have e : X.env.kindOf = fun x => c.sc.names.lookup x := by unfold Env.kindOf; rw [hX.sc]
      rw [e]
      exact congrArg pure h
    · cases h
theorem par_no {t e : Expr} {env : PySem.Env} (h : noPar t e = true) : swappedStores [t] e env = pure none := by
  cases t <;> first | rfl | skip
  all_goals cases e <;> first | rfl | cases h
theorem pgs_names (hX : InC c X) : ∀ (is : List Nat) (ts : List Expr), namesB c is ts = true → PGs X ts (gNames is) ∧ (assignEach ts X.env).length = is.length ∧ (assignEach ts X.env).findIdx? (·.1) = none
  | [], [], _ => ⟨pgs_nil, rfl, rfl⟩
  | [], _ :: _, h => by simp [namesB] at h
  | _ :: _, [], h => by simp [namesB] at h
  | i :: is, e :: ts, h => by
    cases e with
    | Name x p =>
      simp only [namesB, Bool.and_eq_true] at h
      obtain ⟨⟨h1, h2⟩, h3⟩ := h
      obtain ⟨q1, q2, q3⟩ := pgs_names hX is ts h3
      obtain ⟨l1, l2⟩ := hX.loc h2
      have e : assignEach (.Name x p :: ts) X.env = (false, assign (.Name x p) X.env) :: assignEach ts X.env := assign_cons rfl
      exact ⟨pgs_cons (pg_name hX.nd (at_N hX h1) l1 l2) q1 (by rw [e]; rfl), by rw [e]; simp [q2], by rw [e, List.findIdx?_cons, q3]; rfl⟩
    | _ => simp [namesB] at h
end
end QB
/-! ### the check of statements is sound -/
namespace QB
open PySem L2
section
variable {c : Cc} {X : Cx} {W : WX} {k : Nat}
theorem DP.congr {es : List Expr} {m m' : Env → R (List Sl)} (h : DP X W es m) (hm : ∀ ρ, m ρ = m' ρ) : DP X W es m' := by
  have : m = m' := funext hm
  rw [← this]; exact h
theorem DS.congr {st : Stmt} {m m' : Env → R Out} (h : DS X W st m) (hm : ∀ ρ, m ρ = m' ρ) : DS X W st m' := by
  have : m = m' := funext hm
  rw [← this]; exact h
def noLst : P → Bool
  | .lst _ => false
  | _ => true
theorem ev1_da {a : P} (h : noLst a = true) (ρ : Env) : ev1 a ρ = (ev a ρ).bind fun d => .ok (.da d) := by
  cases a <;> first | rfl | cases h
theorem sndP (hX : InC c X) (hw : Wd X k) (tk : Takes X W) : ∀ (ps : Ps) (es : List Expr), OkU X k (usesPs ps) → chkEs c ps es = true → (es.length ≤ 1000 ∨ True) → DP X W es (fun ρ => evP ps ρ)
  | .nil, es, hu, h, _ => by
    cases es with
    | nil => exact dp_nil
    | cons _ _ => cases h
  | .cons a as, es, hu, h, _ => by
    cases es with
    | nil => cases h
    | cons e es =>
      have h : (chkE c a e && noStar e && chkEs c as es) = true := h
      rw [Bool.and_eq_true, Bool.and_eq_true] at h
      have ih := sndP hX hw tk as es (OkU.r hu) h.2 (.inr trivial)
      cases q : noLst a with
      | true =>
        refine (dp_da h.1.2 (sndE a hX hw tk (OkU.l hu) h.1.1) ih).congr fun ρ => ?_
        have e1 : evP (.cons a as) ρ = (ev1 a ρ).bind fun d => (evP as ρ).bind fun ds => .ok (d :: ds) := rfl
        rw [e1, ev1_da q]
      | false =>
        cases a with
        | lst xs =>
          have h1 := h.1.1
          rw [chkE] at h1
          split at h1
          · rename_i l hv
            rw [Bool.and_eq_true] at h1
            have h3 := sndEs xs hX hw tk (OkU.l hu) h1.1
            unfold vLst at hv
            split at hv
            · cases hv
              exact dp_ow (fun ρ ds q => by rw [lens_of (ps := xs) h1.1 q]; exact Nat.le_trans (of_decide_eq_true h1.2) (by decide)) h3 ih
            · cases hv
          · cases h1
        | _ => cases q
theorem asgC_ds {pos py : Pos} {y : Str} {i : Nat} {e : Expr} (hX : InC c X) (hw : Wd X k) (tk : Takes X W) (hN : X.N[i]? = some y) (hl : X.env.scope.names.lookup y = some .local) (hs : swapB c (.Name y py) e = true) :
    ∀ (p : P), OkU X k (usesP p) → chkE c p e = true → DS X W (.Assign [.Name y py] e pos) (fun ρ => (ev p ρ).bind fun d => (asgT (.nm i) d ρ).bind fun ρ' => .ok (.nx ρ')) := by
  intro p hu h
  unfold swapB at hs
  split at hs
  · rename_i y' py' elt gs scope lp e1
    cases e1
    have hsw : swapsWith (.ListComp elt gs scope lp) (some (.Name y py)) pos.line X.env = pure true := by
      rw [swaps_comp (env_kind hX)]
      have e : X.env.kindOf = fun x => c.sc.names.lookup x := by unfold Env.kindOf; rw [hX.sc]
      rw [e]
      exact congrArg pure hs
    cases p with
    | comp it tg pe own =>
      rw [chkE] at h
      split at h
      · rename_i v hv
        simp only [Bool.and_eq_true] at h
        obtain ⟨⟨⟨h1, h2⟩, h3⟩, h4⟩ := h
        obtain ⟨b1, b2, b3, b4, b5⟩ := comp_ok hX h1
        have hi := sndI it hX hw tk (OkU.l hu) h2
        have he := fun (s : Shared) (H : Hp) (C : Addr) (cl : List (Str × Addr)) (fp : List Addr) => sndE pe (hX.blk b2 s H C cl fp) (hw.blk s H C cl fp) (takes_no (X := X.blk s H v.scope (compEnvC v.scope cl C X.env) fp)) (OkU.blk (OkU.r hu) s H C cl fp) h4
        unfold vComp at hv
        split at hv
        · rename_i q; cases q; cases hv
          have h3 := List.isEmpty_iff.mp h3
          subst h3
          exact (ds_asgC (mt := fun _ => .ok true) (me := fun ρ => ev pe ρ) hX.calm hX.nd hN hl hsw hi b1 b4 (fun s H C cl fp => dg_of (hX.blk b2 s H C cl fp) tg _ b3) (fun s H C cl fp => pts_yes) he (not_set b5 _)).congr fun ρ => rfl
        · cases hv
      · cases h
    | compT it tg t pe own =>
      rw [chkE] at h
      split at h
      · rename_i v hv
        split at h
        · rename_i x hx
          simp only [Bool.and_eq_true] at h
          obtain ⟨⟨⟨h1, h2⟩, h3⟩, h4⟩ := h
          obtain ⟨b1, b2, b3, b4, b5⟩ := comp_ok hX h1
          have hi := sndI it hX hw tk (OkU.l hu) h2
          have he := fun (s : Shared) (H : Hp) (C : Addr) (cl : List (Str × Addr)) (fp : List Addr) => sndE pe (hX.blk b2 s H C cl fp) (hw.blk s H C cl fp) (takes_no (X := X.blk s H v.scope (compEnvC v.scope cl C X.env) fp)) (OkU.blk (OkU.r (OkU.r hu)) s H C cl fp) h4
          have ht := fun (s : Shared) (H : Hp) (C : Addr) (cl : List (Str × Addr)) (fp : List Addr) => sndT t (hX.blk b2 s H C cl fp) (hw.blk s H C cl fp) (takes_no (X := X.blk s H v.scope (compEnvC v.scope cl C X.env) fp)) (OkU.blk (OkU.l (OkU.r hu)) s H C cl fp) h3
          unfold vComp at hv
          split at hv
          · rename_i q; cases q; cases hv
            have hx : _ = [x] := hx
            subst hx
            exact (ds_asgC (mt := fun ρ => boolR (ev t ρ)) (me := fun ρ => ev pe ρ) hX.calm hX.nd hN hl hsw hi b1 b4 (fun s H C cl fp => dg_of (hX.blk b2 s H C cl fp) tg _ b3) (fun s H C cl fp => pts_one (ht s H C cl fp).1.pt) he (not_set b5 _)).congr fun ρ => rfl
          · cases hv
        · cases h
      · cases h
    | cst d => cases d <;> cases h
    | lstRng it => cases it <;> simp [chkE, vLR, vLZ] at h
    | _ => simp [chkE, vVar, vUn, vBi, vChn, vNot, vAnd, vOr, vIte, vTup, vLst, vFn] at h
  · cases hs
theorem ownC_ds {pos py : Pos} {y : Str} {i : Nat} {e : Expr} (hX : InC c X) (hw : Wd X k) (tk : Takes X W) (hN : X.N[i]? = some y) (hl : X.env.scope.names.lookup y = some .local) (hs : swapB c (.Name y py) e = true) :
    ∀ (p : P), OkU X k (usesP p) → chkE c p e = true → DS X W (.Assign [.Name y py] e pos) (fun ρ => ex (.ownC i p) ρ) := by
  intro p hu h
  unfold swapB at hs
  split at hs
  · rename_i y' py' elt gs scope lp e1
    cases e1
    have hsw : swapsWith (.ListComp elt gs scope lp) (some (.Name y py)) pos.line X.env = pure true := by
      rw [swaps_comp (env_kind hX)]
      have e : X.env.kindOf = fun x => c.sc.names.lookup x := by unfold Env.kindOf; rw [hX.sc]
      rw [e]
      exact congrArg pure hs
    cases p with
    | comp it tg pe own =>
      rw [chkE] at h
      split at h
      · rename_i v hv
        simp only [Bool.and_eq_true] at h
        obtain ⟨⟨⟨h1, h2⟩, h3⟩, h4⟩ := h
        obtain ⟨b1, b2, b3, b4, b5⟩ := comp_ok hX h1
        have hi := sndI it hX hw tk (OkU.l hu) h2
        have he := fun (s : Shared) (H : Hp) (C : Addr) (cl : List (Str × Addr)) (fp : List Addr) => sndE pe (hX.blk b2 s H C cl fp) (hw.blk s H C cl fp) (takes_no (X := X.blk s H v.scope (compEnvC v.scope cl C X.env) fp)) (OkU.blk (OkU.r hu) s H C cl fp) h4
        unfold vComp at hv
        split at hv
        · rename_i q; cases q; cases hv
          have h3 := List.isEmpty_iff.mp h3
          subst h3
          exact (ds_ownC (mt := fun _ => .ok true) (me := fun ρ => ev pe ρ) hX.calm hX.nd hN hl hsw hi b1 b4 (fun s H C cl fp => dg_of (hX.blk b2 s H C cl fp) tg _ b3) (fun s H C cl fp => pts_yes) he (not_set b5 _)).congr fun ρ => rfl
        · cases hv
      · cases h
    | compT it tg t pe own =>
      rw [chkE] at h
      split at h
      · rename_i v hv
        split at h
        · rename_i x hx
          simp only [Bool.and_eq_true] at h
          obtain ⟨⟨⟨h1, h2⟩, h3⟩, h4⟩ := h
          obtain ⟨b1, b2, b3, b4, b5⟩ := comp_ok hX h1
          have hi := sndI it hX hw tk (OkU.l hu) h2
          have he := fun (s : Shared) (H : Hp) (C : Addr) (cl : List (Str × Addr)) (fp : List Addr) => sndE pe (hX.blk b2 s H C cl fp) (hw.blk s H C cl fp) (takes_no (X := X.blk s H v.scope (compEnvC v.scope cl C X.env) fp)) (OkU.blk (OkU.r (OkU.r hu)) s H C cl fp) h4
          have ht := fun (s : Shared) (H : Hp) (C : Addr) (cl : List (Str × Addr)) (fp : List Addr) => sndT t (hX.blk b2 s H C cl fp) (hw.blk s H C cl fp) (takes_no (X := X.blk s H v.scope (compEnvC v.scope cl C X.env) fp)) (OkU.blk (OkU.l (OkU.r hu)) s H C cl fp) h3
          unfold vComp at hv
          split at hv
          · rename_i q; cases q; cases hv
            have hx : _ = [x] := hx
            subst hx
            exact (ds_ownC (mt := fun ρ => boolR (ev t ρ)) (me := fun ρ => ev pe ρ) hX.calm hX.nd hN hl hsw hi b1 b4 (fun s H C cl fp => dg_of (hX.blk b2 s H C cl fp) tg _ b3) (fun s H C cl fp => pts_one (ht s H C cl fp).1.pt) he (not_set b5 _)).congr fun ρ => rfl
          · cases hv
        · cases h
      · cases h
    | cst d => cases d <;> cases h
    | lstRng it => cases it <;> simp [chkE, vLR, vLZ] at h
    | _ => simp [chkE, vVar, vUn, vBi, vChn, vNot, vAnd, vOr, vIte, vTup, vLst, vFn] at h
  · cases hs
theorem par_ds {is : List Nat} {ts vs : List Expr} {kt k2 : Nat} {pt p2 pos : Pos} {m : Env → R (List Sl)} (hX : InC c X) (h : parB c is ts vs = true) (ha : DP X W vs m) :
    DS X W (.Assign [.Tuple ts kt pt] (.Tuple vs k2 p2) pos) (fun ρ => (m ρ).bind fun ds => (setAll is ds ρ).bind fun ρ' => .ok (.nx ρ')) := by
  unfold parB at h
  have sw : ∀ r, swF c.sc ts vs = some r → swappedStores [.Tuple ts kt pt] (.Tuple vs k2 p2) X.env = pure r := fun r q => swF_is (env_kind hX) (by rw [hX.sc]; exact q)
  split at h
  · cases h
  · rename_i q
    rw [Bool.and_eq_true] at h
    obtain ⟨g1, g2, g3⟩ := pgs_names hX is ts h.1
    exact ds_unp hX.calm g1 g2 g3 (of_decide_eq_true h.2) (sw _ q) ha
  · rename_i names q
    split at h
    · simp only [Bool.and_eq_true, decide_eq_true_eq] at h
      obtain ⟨⟨⟨⟨⟨h1, h2⟩, h3⟩, h4⟩, h5⟩, h6⟩ := h
      exact ds_par2 hX.calm hX.nd (at_N hX h1) (at_N hX h2) h3 (is_Lc hX h4) (is_Lc hX h5) (by rw [← h6]; exact sw _ q) ha
    · simp only [Bool.and_eq_true, decide_eq_true_eq] at h
      obtain ⟨⟨⟨⟨⟨⟨⟨⟨⟨h1, h2⟩, h3⟩, h4⟩, h5⟩, h6⟩, h7⟩, h8⟩, h9⟩, h10⟩ := h
      exact ds_par3 hX.calm hX.nd (at_N hX h1) (at_N hX h2) (at_N hX h3) h4 h5 h6 (is_Lc hX h7) (is_Lc hX h8) (is_Lc hX h9) (by rw [← h10]; exact sw _ q) ha
    · cases h
end
variable {k : Nat}
mutual
theorem sndS : ∀ (b : S) {c : Cc} {X : Cx} {W : WX} {st : Stmt}, InC c X → Wd X k → Takes X W → PassesOwn (model X.prog X.w) X.A X.env X.xe → OkU X k (usesS b) → chkS c b st = true → DS X W st (fun ρ => ex b ρ)
  | .pass, c, X, W, st, hX, hw, tk, hp, hu, h => by
    rw [chkS] at h
    unfold isPass at h
    split at h
    · exact ds_pass
    · cases h
  | .own i as, c, X, W, st, hX, hw, tk, hp, hu, h => by
    rw [chkS] at h
    split at h
    · rename_i x es hv
      simp only [Bool.and_eq_true] at h
      obtain ⟨⟨⟨h1, h2⟩, h3⟩, h4⟩ := h
      have h5 := sndEs as hX hw tk hu h3
      obtain ⟨l1, l2⟩ := hX.loc h2
      unfold vOwn at hv
      split at hv
      · cases hv
        exact ds_own hX.nd (at_N hX h1) l1 l2 (fun ρ ds q => by rw [lens_of (ps := as) h3 q]; exact Nat.le_trans (of_decide_eq_true h4) (by decide)) h5
      · cases hv
    · cases h
  | .ownA i a b, c, X, W, st, hX, hw, tk, hp, hu, h => by
    rw [chkS] at h
    split at h
    · rename_i x ea eb hv
      simp only [Bool.and_eq_true] at h
      obtain ⟨⟨⟨h1, h2⟩, h3⟩, h4⟩ := h
      obtain ⟨l1, l2⟩ := hX.loc h2
      unfold vOwnA at hv
      split at hv
      · cases hv
        exact ds_ownA hX.nd (at_N hX h1) l1 l2 (sndE a hX hw tk (OkU.l hu) h3) (sndE b hX hw tk (OkU.r hu) h4)
      · cases hv
    · cases h
  | .ownC i p, c, X, W, st, hX, hw, tk, hp, hu, h => by
    rw [chkS] at h
    split at h
    · rename_i t e hv
      simp only [Bool.and_eq_true] at h
      obtain ⟨⟨h1, h2⟩, h3⟩ := h
      unfold vAsg at hv
      split at hv
      · cases hv
        cases t with
        | Name y py =>
          have h2 : (atN c i y && (match c.sc.names.lookup y with | some .local => true | _ => false) && swapB c (.Name y py) e) = true := h2
          simp only [Bool.and_eq_true] at h2
          obtain ⟨⟨a1, a2⟩, a3⟩ := h2
          exact ownC_ds hX hw tk (at_N hX a1) (is_Lc hX a2) a3 p hu h1
        | _ => cases h2
      · cases hv
    · cases h
  | .asg tg p, c, X, W, st, hX, hw, tk, hp, hu, h => by
    rw [chkS] at h
    split at h
    · rename_i t e hv
      rw [Bool.and_eq_true, Bool.or_eq_true] at h
      unfold vAsg at hv
      split at hv
      · cases hv
        rcases h.2 with q | q
        · unfold asgOk at q
          simp only [Bool.and_eq_true] at q
          obtain ⟨⟨⟨q1, q2⟩, q3⟩, q4⟩ := q
          exact ds_asg (sndE p hX hw tk hu h.1) (dg_of hX tg _ q1) q2 (swap_no hX q3) (par_no q4)
        · unfold asgC at q
          split at q
          · simp only [Bool.and_eq_true] at q
            obtain ⟨⟨q1, q2⟩, q3⟩ := q
            exact asgC_ds hX hw tk (at_N hX q1) (is_Lc hX q2) q3 p hu h.1
          · cases q
      · cases hv
    · cases h
  | .par is ps, c, X, W, st, hX, hw, tk, hp, hu, h => by
    rw [chkS] at h
    split at h
    · rename_i ts vs hv
      rw [Bool.and_eq_true] at h
      have h1 := sndP hX hw tk ps vs hu h.1 (.inr trivial)
      unfold vPar at hv
      split at hv
      · cases hv
        exact par_ds hX h.2 h1
      · cases hv
    · cases h
  | .app i p, c, X, W, st, hX, hw, tk, hp, hu, h => by
    rw [chkS] at h
    split at h
    · rename_i x e hv
      simp only [Bool.and_eq_true] at h
      obtain ⟨⟨h1, h2⟩, h3⟩ := h
      have h4 := sndE p hX hw tk hu h3
      obtain ⟨v1, v2, v3⟩ := hX.vis h2
      unfold vApp at hv
      split at hv
      · split at hv
        · rename_i hh
          cases hv
          obtain ⟨rfl, s1, s2⟩ := hh
          exact ds_app (at_N hX h1) v1 v2 v3 s1 s2 h4
        · cases hv
      · cases hv
    · cases h
  | .ext i p, c, X, W, st, hX, hw, tk, hp, hu, h => by
    rw [chkS] at h
    split at h
    · rename_i x e hv
      simp only [Bool.and_eq_true] at h
      obtain ⟨⟨h1, h2⟩, h3⟩ := h
      have h4 := sndE p hX hw tk hu h3
      obtain ⟨v1, v2, v3⟩ := hX.vis h2
      unfold vApp at hv
      split at hv
      · split at hv
        · rename_i hh
          cases hv
          obtain ⟨rfl, s1, s2⟩ := hh
          exact ds_ext (at_N hX h1) v1 v2 v3 s1 s2 h4
        · cases hv
      · cases hv
    · cases h
  | .evl p, c, X, W, st, hX, hw, tk, hp, hu, h => by
    rw [chkS] at h
    split at h
    · rename_i e hv
      rw [Bool.and_eq_true] at h
      have h4 := sndE p hX hw tk hu h.2
      unfold vEvl at hv
      split at hv
      · cases hv
        exact ds_evl h.1 h4
      · cases hv
    · cases h
  | .iff t a b, c, X, W, st, hX, hw, tk, hp, hu, h => by
    rw [chkS] at h
    split at h
    · rename_i te l1 l2 hv
      simp only [Bool.and_eq_true] at h
      have h1 := (sndT t hX hw tk (OkU.l hu) h.1.1).1
      have h2 := sndSs a hX hw tk hp (OkU.l (OkU.r hu)) h.1.2
      have h3 := sndSs b hX hw tk hp (OkU.r (OkU.r hu)) h.2
      unfold vIf at hv
      split at hv
      · cases hv
        exact ds_if h1 h2 h3
      · cases hv
    · cases h
  | .forr it tg b, c, X, W, st, hX, hw, tk, hp, hu, h => by
    rw [chkS] at h
    split at h
    · rename_i te ie l hv
      simp only [Bool.and_eq_true] at h
      obtain ⟨⟨⟨h1, h2⟩, h3⟩, h4⟩ := h
      have q1 := sndI it hX hw tk (OkU.l hu) h1
      have q2 := sndSs b hX hw tk hp (OkU.r hu) h4
      unfold vFor at hv
      split at hv
      · cases hv
        exact ds_for hp hX.calm q1 (dg_of hX tg _ h2) q2 (not_set h3 _)
      · cases hv
    · cases h
  | .whl n t b, c, X, W, st, hX, hw, tk, hp, hu, h => by
    rw [chkS] at h
    split at h
    · rename_i te l hv
      simp only [Bool.and_eq_true] at h
      have q1 := (sndT t hX hw tk (OkU.l hu) h.1).1
      have q2 := sndSs b hX hw tk hp (OkU.r hu) h.2
      unfold vWhl at hv
      split at hv
      · cases hv
        exact ds_whl n hp q1 q2
      · cases hv
    · cases h
  | .ret p, c, X, W, st, hX, hw, tk, hp, hu, h => by
    rw [chkS] at h
    split at h
    · rename_i e hv
      have h4 := sndE p hX hw tk hu h
      unfold vRet at hv
      split at hv
      · cases hv
        exact ds_ret h4
      · cases hv
    · cases h
  | .rai x, c, X, W, st, hX, hw, tk, hp, hu, h => by
    rw [chkS] at h
    split at h
    · rename_i y hv
      rw [Bool.and_eq_true] at h
      have := of_decide_eq_true h.1
      subst this
      have hr : RaiOk X y := hu _ (List.mem_cons_self ..)
      unfold vRai at hv
      split at hv
      · cases hv
        exact ds_rai hX.calm tk hr (hX.gl h.2).1 (hX.gl h.2).2
      · cases hv
    · cases h
  | .frz _, c, X, W, st, hX, hw, tk, hp, hu, h => by rw [chkS] at h; cases h
  | .seq _ _, c, X, W, st, hX, hw, tk, hp, hu, h => by rw [chkS] at h; cases h
  | .nil, c, X, W, st, hX, hw, tk, hp, hu, h => by rw [chkS] at h; cases h
theorem sndSs : ∀ (b : S) {c : Cc} {X : Cx} {W : WX} {l : List Stmt}, InC c X → Wd X k → Takes X W → PassesOwn (model X.prog X.w) X.A X.env X.xe → OkU X k (usesS b) → chkSs c b l = true → DSs X W l (fun ρ => ex b ρ)
  | .nil, c, X, W, l, hX, hw, tk, hp, hu, h => by
    rw [chkSs] at h
    have := List.isEmpty_iff.mp h
    subst this
    exact dss_nil
  | .seq a b, c, X, W, l, hX, hw, tk, hp, hu, h => by
    have hb : ∀ {l'}, chkSs c b l' = true → DSs X W l' (fun ρ => ex b ρ) := fun {l'} q => sndSs b hX hw tk hp (OkU.r hu) q
    have step : ∀ {l'}, (match l' with | st :: l => chkS c a st && chkSs c b l | [] => false) = true → DSs X W l' (fun ρ => ex (.seq a b) ρ) := fun {l'} q => by
      cases l' with
      | nil => cases q
      | cons st l =>
        have q : (chkS c a st && chkSs c b l) = true := q
        rw [Bool.and_eq_true] at q
        exact dss_cons (sndS a hX hw tk hp (OkU.l hu) q.1) (hb q.2)
    cases a with
    | frz i => exact dss_frz (hb h)
    | _ => exact step h
  | .pass, c, X, W, l, hX, hw, tk, hp, hu, h => by simp [chkSs] at h
  | .own _ _, c, X, W, l, hX, hw, tk, hp, hu, h => by simp [chkSs] at h
  | .ownA _ _ _, c, X, W, l, hX, hw, tk, hp, hu, h => by simp [chkSs] at h
  | .ownC _ _, c, X, W, l, hX, hw, tk, hp, hu, h => by simp [chkSs] at h
  | .asg _ _, c, X, W, l, hX, hw, tk, hp, hu, h => by simp [chkSs] at h
  | .par _ _, c, X, W, l, hX, hw, tk, hp, hu, h => by simp [chkSs] at h
  | .app _ _, c, X, W, l, hX, hw, tk, hp, hu, h => by simp [chkSs] at h
  | .ext _ _, c, X, W, l, hX, hw, tk, hp, hu, h => by simp [chkSs] at h
  | .evl _, c, X, W, l, hX, hw, tk, hp, hu, h => by simp [chkSs] at h
  | .iff _ _ _, c, X, W, l, hX, hw, tk, hp, hu, h => by simp [chkSs] at h
  | .forr _ _ _, c, X, W, l, hX, hw, tk, hp, hu, h => by simp [chkSs] at h
  | .whl _ _ _, c, X, W, l, hX, hw, tk, hp, hu, h => by simp [chkSs] at h
  | .ret _, c, X, W, l, hX, hw, tk, hp, hu, h => by simp [chkSs] at h
  | .rai _, c, X, W, l, hX, hw, tk, hp, hu, h => by simp [chkSs] at h
  | .frz _, c, X, W, l, hX, hw, tk, hp, hu, h => by simp [chkSs] at h
end
end QB
/-! ### a def by its term; the law's end -/
namespace QB
open PySem L2
section
variable {P : Program} {w : World} {K : PySem.W.Frag} {mg : Str → Option Value} {base : Heap} {k : Nat}
def GlbG (mg : Str → Option Value) (x : Str) (d : PyData) : Prop := ∃ u v, mg x = some u ∧ RelV v u ∧ scalV d = some v
def RaiG (K : PySem.W.Frag) (mg : Str → Option Value) (x : Str) : Prop := ∃ C, mg x = some (.ref C) ∧ PySem.W.excIn K C [.type "ValueError", .type "Exception", .type "BaseException", .type "object"] "ValueError.__new__" = true ∧ PySem.W.keepIn K (.ref C) = true ∧
  PySem.W.subIn K (.ref C) (.type "BaseException") = some true ∧ PySem.W.typeIn K (.ref C) = some (.type "type")
def AllU (P : Program) (w : World) (K : PySem.W.Frag) (mg : Str → Option Value) (base : Heap) (k : Nat) : List Use → Prop
  | [] => True
  | .call x m :: l => Cal P w K mg base k x m ∧ AllU P w K mg base k l
  | .glb x d :: l => GlbG mg x d ∧ AllU P w K mg base k l
  | .rai x :: l => RaiG K mg x ∧ AllU P w K mg base k l
theorem AllU.ok {X : Cx} (h0 : X.prog = P) (h1 : X.w = w) (h2 : X.K = K) (h3 : X.mg = mg) (h4 : X.base = base) : ∀ (l : List Use), AllU P w K mg base k l → OkU X k l
  | [], _ => fun u hu => nomatch hu
  | u :: l, h => fun u' hu' => by
    have ih := fun h' : AllU P w K mg base k l => AllU.ok h0 h1 h2 h3 h4 l h'
    subst h0 h1 h2 h3 h4
    rcases List.mem_cons.mp hu' with e | e
    · subst e
      cases u' with
      | call x m => exact h.1
      | glb x d => exact h.1
      | rai x =>
        obtain ⟨C, q1, q2, q3, q4, q5⟩ := h.1
        exact ⟨C, q1, q2, q3, raises_own q4 q5⟩
    · have h' : AllU X.prog X.w X.K X.mg X.base k l := by cases u <;> exact h.2
      exact ih h' u' e
theorem rel_start {N : List Str} {vs : List V} {ds : List PyData} {Hs H : Hp} (hs : Same Hs H) (hd : DdAll Hs vs ds) : Rel Hs H (ds.map .da ++ List.replicate (N.length - ds.length) .no) (L2.start N vs) Hs H := by
  have hl := dpaLen hd
  have ni : ∀ (j n : Nat) (s : Sl), (List.replicate n Sl.no)[j]? = some s → s = .no := fun j n s e => by
    have := List.mem_of_getElem? e
    exact (List.mem_replicate.mp this).2
  refine ⟨⟨hs, ?_, fun i d e => ?_⟩, Ext.refl hs, fun i es e => ?_, fun i j es es' l hij e => ?_⟩
  · unfold L2.start
    simp [hl]
  · unfold L2.start
    by_cases hi : i < ds.length
    · rw [List.getElem?_append_left (by simpa using hi)] at e
      rw [List.getElem?_append_left (by rw [List.length_map, hl]; exact hi)]
      rw [List.getElem?_map] at e ⊢
      cases q : ds[i]? with
      | none => rw [q] at e; cases e
      | some d' =>
        rw [q] at e
        cases e
        obtain ⟨v, h1, h2⟩ := dpaGet hd q
        exact ⟨v, by rw [h1]; rfl, h2⟩
    · rw [List.getElem?_append_right (by simpa using hi)] at e
      have := ni _ _ _ e
      cases this
  · exfalso
    by_cases hi : i < ds.length
    · rw [List.getElem?_append_left (by simpa using hi), List.getElem?_map] at e
      cases q : ds[i]? with
      | none => rw [q] at e; cases e
      | some d' => rw [q] at e; cases e
    · rw [List.getElem?_append_right (by simpa using hi)] at e
      have := ni _ _ _ e
      cases this
  · exfalso
    by_cases hi : i < ds.length
    · rw [List.getElem?_append_left (by simpa using hi), List.getElem?_map] at e
      cases q : ds[i]? with
      | none => rw [q] at e; cases e
      | some d' => rw [q] at e; cases e
    · rw [List.getElem?_append_right (by simpa using hi)] at e
      have := ni _ _ _ e
      cases this
theorem def_ok {x qual : Str} {st : Stmt} {f : Addr} {fd : FuncData} {N ps : List Str} {b : S} (F : Fun K x qual st f fd) (S : FnScope N ps (defScope st)) (hc : chkSs ⟨N, defScope st, fun _ => true⟩ b (defBody st) = true) (hb : ∀ x ∈ bltNames, mg x = none)
    (hu : AllU P w K mg base k (usesS b)) : FnOk P w K mg base (L2.CX P w) (k + 1) f fd ps (SpD mg (run ps.length N.length b)) := by
  refine F.okX S (fun vs H Q E h => ?_) (fun cdv A outer s H vs Q E hr h => ?_)
  · obtain ⟨Hs, ds, hs, hd, h⟩ := h
    unfold run at h
    cases hl : decide (ds.length = ps.length) with
    | false => rw [hl] at h; exact h.elim
    | true => rw [dpaLen hd]; exact of_decide_eq_true hl
  · obtain ⟨Hs, ds, hs, hd, h⟩ := h
    unfold run at h
    cases hl : decide (ds.length = ps.length) with
    | false => rw [hl] at h; exact h.elim
    | true =>
      rw [hl, R.when_true] at h
      have hl := of_decide_eq_true hl
      let X := cxOf (L2.CX P w) P w K mg base N qual (defScope st) f cdv A outer s H E
      have hX : InC ⟨N, defScope st, fun _ => true⟩ X := ⟨rfl, rfl, rfl, S.nd, S.kind, rfl⟩
      have hw : Wd X k := ⟨hb, hr⟩
      have tk : Takes X (fun cls d _ H => E cls d H) := takes_of rfl rfl rfl rfl
      have hp : PassesOwn (model X.prog X.w) X.A X.env X.xe := passes_of rfl
      obtain ⟨t, p, q⟩ := sndSs b hX hw tk hp (AllU.ok (X := X) rfl rfl rfl rfl rfl _ hu) hc
      refine ⟨t, p, q Hs H Hs _ _ Hs H _ (rel_start hs hd) (Same.refl _) ?_⟩
      rw [hl]
      show PostS mg (fun cls d _ H => E cls d H) Hs H Hs (ex b (ds.map .da ++ List.replicate (N.length - ps.length) .no)) _
      cases he : ex b (ds.map .da ++ List.replicate (N.length - ps.length) .no) with
      | stuck => rw [he] at h; exact h
      | exc c => rw [he] at h; exact fun σ' Hs' H' e1 C hC => h Hs' H' e1 C hC
      | ok o =>
        rw [he] at h
        cases o with
        | nx ρ' => exact fun σ' Hs' H' r1 _ => h .non Hs' H' r1.grow .non
        | rt d => exact fun v Hs' H' e1 o1 => h v Hs' H' e1 o1
theorem cal_ok {x : Str} {st : Stmt} {f : Addr} {fd : FuncData} {N ps : List Str} {b : S} (F : Fun K x x st f fd) (g : mg x = some (.ref f)) (hb : Binds K fd ps []) (S : FnScope N ps (defScope st)) (hc : chkSs ⟨N, defScope st, fun _ => true⟩ b (defBody st) = true) (hn : ∀ x ∈ bltNames, mg x = none)
    (hu : AllU P w K mg base k (usesS b)) : Cal P w K mg base (k + 1) x (run ps.length N.length b) := ⟨f, fd, ps, def_ok F S hc hn hu, g, F.kp, hb⟩
/-! #### the law -/
def noListV (o : Obj) : Bool := match o.cls with
  | .type n => !(n == "list")
  | _ => true
def noLists (K : PySem.W.Frag) : Bool := K.all fun p => noListV p.2
theorem rd_of {K : PySem.W.Frag} {H : Hp} {a : Addr} {xs : List V} (h : noLists K = true) (s : SqL K H a xs) : Rd H a (.lst xs) := by
  rcases s with s | ⟨o, its, n, h1, h2, _⟩
  · exact s
  · exfalso
    have hm : ∀ (K : List (Addr × Obj)) , K.lookup a = some o → ∃ b, (b, o) ∈ K := by
      intro K
      induction K with
      | nil => intro e; cases e
      | cons p K ih =>
        intro e
        rw [List.lookup_cons] at e
        split at e
        · cases e; exact ⟨p.1, List.mem_cons_self ..⟩
        · obtain ⟨b, hb⟩ := ih e
          exact ⟨b, List.mem_cons_of_mem _ hb⟩
    obtain ⟨b, hm⟩ := hm K h1
    have := (List.all_eq_true.mp h) _ hm
    unfold noListV at this
    rw [h2] at this
    cases this
/-- hands back what the term computes, and lets nothing out -/
def SpT (m : List PyData → R PyData) : Sp := fun vs H Q _ => ∃ Hs ds d, Same Hs H ∧ DdAll Hs vs ds ∧ m ds = .ok d ∧ ∀ v Hs' H', Ext Hs H Hs' H' → Dd Hs' v d → Q v H'
theorem spT {m : List PyData → R PyData} {vs : List V} {H : Hp} {Q : VK} {E : XK} (h : SpT m vs H Q E) : SpD mg m vs H Q E := by
  obtain ⟨Hs, ds, d, h1, h2, h3, h4⟩ := h
  refine ⟨Hs, ds, h1, h2, ?_⟩
  rw [h3]
  exact h4
theorem law_true {m : List PyData → R PyData} {ns : List Int} {K : PySem.W.Frag} {H : Hp} {a : Addr} (hK : noLists K = true) (hS : SqL K H a (ns.map V.int)) (hm : m [.list (ns.map .int)] = .ok (.bool true)) : SpT m [.ref a] H (fun v _ => v = .bl true) fun _ _ _ => False :=
  ⟨H, _, _, Same.refl _, .cons (.lst (rd_of hK hS) dd_of_ints) .nil, hm, fun v Hs' H' _ o => by cases o; rfl⟩
theorem cx_false {P : Program} {w : World} {H : Hp} {s : Shared} {e : Value} {s' : Shared} (h : L2.CX P w [] H s (fun _ _ _ => False) e s') : False := by
  obtain ⟨_, _, _, _, _, _, _, _, _, _, _, _, z⟩ := h
  exact z
end
end QB
/-! ### what stands behind the top; the chain of defs; the law -/
namespace QB
open PySem L2
section
variable {P : Program} {w : World} {K : PySem.W.Frag} {mg : Str → Option Value} {base h : Heap} {k : Nat}
def FD (K : PySem.W.Frag) (mg : Str → Option Value) (x : Str) (st : Stmt) (ps : List Str) : Prop := ∃ f fd, Fun K x x st f fd ∧ mg x = some (.ref f) ∧ Binds K fd ps []
theorem fd_mk {x : Str} {st : Stmt} {ps : List Str} (Y : K.In h) (G : h.Ns mainGlobals mg) {f : Addr} {od an : Option Addr} {sl : Array (Option Value)} {oc kV dc pm cd ct : Value}
    (a : PySem.W.nsIn K mainGlobals x = some (some (.ref f))) (l : K.lookup f = some ⟨oc, od, .func (PySem.W.fnOf x x (defArgs st) (defBody st) (defScope st) .none kV dc pm an cd ct), sl⟩) (c : PySem.W.codeIn K cd x = true) (kp : PySem.W.keepIn K (.ref f) = true)
    (hb : ∀ (kV doc pm : Value) (an : Option Addr) (cdv ct : Value) (us : List Value), us.length = ps.length → bindArgs (PySem.W.fnOf x x (defArgs st) (defBody st) (defScope st) .none kV doc pm an cdv ct) ⟨us, []⟩ = pure (ps.zip us)) : FD K mg x st ps :=
  ⟨f, _, fun_mk (st := st) l c kp, PySem.W.mg_of Y G a, (fun_mk (st := st) l c kp).binds hb⟩
theorem glb_int {x : Str} {i : Int} {t : Tok} (Y : K.In h) (G : h.Ns mainGlobals mg) (a : PySem.W.nsIn K mainGlobals x = some (some (.int i t))) : GlbG mg x (.int i) := ⟨_, .int i, PySem.W.mg_of Y G a, ⟨t, rfl⟩, rfl⟩
theorem glb_str {x z : Str} {t : Tok} (Y : K.In h) (G : h.Ns mainGlobals mg) (a : PySem.W.nsIn K mainGlobals x = some (some (.str z t))) (ho : PyData.strOk z = true) : GlbG mg x (.str z) := ⟨_, .str z, PySem.W.mg_of Y G a, ⟨t, rfl⟩, if_pos ho⟩
theorem rai_mk {x : Str} {C : Addr} (Y : K.In h) (G : h.Ns mainGlobals mg) (a : PySem.W.nsIn K mainGlobals x = some (some (.ref C))) (e1 : PySem.W.excIn K C [.type "ValueError", .type "Exception", .type "BaseException", .type "object"] "ValueError.__new__" = true)
    (e2 : PySem.W.keepIn K (.ref C) = true) (e3 : PySem.W.subIn K (.ref C) (.type "BaseException") = some true) (e4 : PySem.W.typeIn K (.ref C) = some (.type "type")) : RaiG K mg x := ⟨C, PySem.W.mg_of Y G a, e1, e2, e3, e4⟩
theorem allU_nil : AllU P w K mg base k [] := trivial
theorem allU_call {x : Str} {m : List PyData → R PyData} {l : List Use} {j : Nat} (c : Cal P w K mg base j x m) (hj : Nat.ble j k = true) (r : AllU P w K mg base k l) : AllU P w K mg base k (.call x m :: l) := ⟨c.mono (Nat.le_of_ble_eq_true hj), r⟩
theorem allU_glb {x : Str} {d : PyData} {l : List Use} (c : GlbG mg x d) (r : AllU P w K mg base k l) : AllU P w K mg base k (.glb x d :: l) := ⟨c, r⟩
theorem allU_rai {x : Str} {l : List Use} (c : RaiG K mg x) (r : AllU P w K mg base k l) : AllU P w K mg base k (.rai x :: l) := ⟨c, r⟩
theorem cal_fd {x : Str} {st : Stmt} {N ps : List Str} {b : S} {n m : Nat} {L : List Use} (D : FD K mg x st ps) (Sc : FnScope N ps (defScope st)) (hc : chkSs ⟨N, defScope st, fun _ => true⟩ b (defBody st) = true) (hn : ∀ x ∈ bltNames, mg x = none)
    (hu : AllU P w K mg base k L) (hL : usesS b = L) (e1 : ps.length = n) (e2 : N.length = m) : Cal P w K mg base (k + 1) x (run n m b) := by
  obtain ⟨f, fd, F, g, B⟩ := D
  subst e1 e2 hL
  exact cal_ok F g B Sc hc hn hu
/-! #### the law's own def -/
def FL (K : PySem.W.Frag) (mg : Str → Option Value) (st : Stmt) : Prop := ∃ f fd, Fun K "law" "law" st f fd ∧ mg "law" = some (.ref f) ∧ ∀ (s : Shared) (u : Value), BindsTo s fd ⟨[u], []⟩ [("script", u)]
theorem fl_mk {st : Stmt} (Y : K.In h) (G : h.Ns mainGlobals mg) {f : Addr} {od an : Option Addr} {sl : Array (Option Value)} {oc kV dc pm cd ct : Value}
    (a : PySem.W.nsIn K mainGlobals "law" = some (some (.ref f))) (l : K.lookup f = some ⟨oc, od, .func (PySem.W.fnOf "law" "law" (defArgs st) (defBody st) (defScope st) .none kV dc pm an cd ct), sl⟩) (c : PySem.W.codeIn K cd "law" = true) (kp : PySem.W.keepIn K (.ref f) = true)
    (hb : ∀ (kV doc pm : Value) (an : Option Addr) (cdv ct : Value) (u : Value), bindArgs (PySem.W.fnOf "law" "law" (defArgs st) (defBody st) (defScope st) .none kV doc pm an cdv ct) ⟨[u], []⟩ = pure [(("script" : Str), u)]) : FL K mg st :=
  ⟨f, _, fun_mk (st := st) l c kp, PySem.W.mg_of Y G a, fun s u => .of_eq (hb kV dc pm an cd ct u)⟩
theorem law_fn {st : Stmt} {fa : Addr} {N : List Str} {b : S} {m : Nat} (D : FL K mg st) (hmg : mg "law" = some (.ref fa)) (Sc : FnScope N ["script"] (defScope st)) (hc : chkSs ⟨N, defScope st, fun _ => true⟩ b (defBody st) = true) (hn : ∀ x ∈ bltNames, mg x = none)
    (hu : ∀ base, AllU P w K mg base k (usesS b)) (e2 : N.length = m) : ∃ fd : FuncData, (∀ (s : Shared) (u : Value), BindsTo s fd ⟨[u], []⟩ [("script", u)]) ∧
      ∀ base : Heap, K.In base → base.Ns mainGlobals mg → FnOk P w K mg base (L2.CX P w) (k + 1) fa fd ["script"] (SpT (run 1 m b)) := by
  obtain ⟨f, fd, F, g, B⟩ := D
  rw [g] at hmg
  cases hmg
  subst e2
  exact ⟨fd, B, fun base _ _ => (def_ok F Sc hc hn (hu base)).imp fun vs H Q E q => spT q⟩
theorem blt_mk (Y : K.In h) (G : h.Ns mainGlobals mg) (z0 : PySem.W.nsIn K mainGlobals "len" = some none) (z1 : PySem.W.nsIn K mainGlobals "all" = some none) (z2 : PySem.W.nsIn K mainGlobals "any" = some none) (z3 : PySem.W.nsIn K mainGlobals "sum" = some none) (z4 : PySem.W.nsIn K mainGlobals "max" = some none) (z5 : PySem.W.nsIn K mainGlobals "min" = some none) (z6 : PySem.W.nsIn K mainGlobals "int" = some none) (z7 : PySem.W.nsIn K mainGlobals "str" = some none) (z8 : PySem.W.nsIn K mainGlobals "list" = some none) (z9 : PySem.W.nsIn K mainGlobals "tuple" = some none) (z10 : PySem.W.nsIn K mainGlobals "sorted" = some none) (z11 : PySem.W.nsIn K mainGlobals "isinstance" = some none) (z12 : PySem.W.nsIn K mainGlobals "range" = some none) (z13 : PySem.W.nsIn K mainGlobals "zip" = some none) (z14 : PySem.W.nsIn K mainGlobals "enumerate" = some none) (z15 : PySem.W.nsIn K mainGlobals "set" = some none) (z16 : PySem.W.nsIn K mainGlobals "bool" = some none) : ∀ x ∈ bltNames, mg x = none := by
  have z := @PySem.W.mg_none_of K h mg
  unfold bltNames
  intro x hx
  simp only [List.mem_cons, List.not_mem_nil, or_false] at hx
  rcases hx with e | e | e | e | e | e | e | e | e | e | e | e | e | e | e | e | e <;> subst e <;> first | exact z Y G z0 | exact z Y G z1 | exact z Y G z2 | exact z Y G z3 | exact z Y G z4 | exact z Y G z5 | exact z Y G z6 | exact z Y G z7 | exact z Y G z8 | exact z Y G z9 | exact z Y G z10 | exact z Y G z11 | exact z Y G z12 | exact z Y G z13 | exact z Y G z14 | exact z Y G z15 | exact z Y G z16
end
end QB
/-! ### the defs that the laws share, as terms -/
namespace QL
open PySem QB
def N_is_int : List Str := ["value", "least", "most"]
def b_is_int : S :=
 (.seq (.ret (.an (.un (.isi "int") (.var 0)) (.an (.nt (.un (.isi "bool") (.var 0))) (.chn .le .le (.var 1) (.var 0) (.var 2)))))
 .nil)
def f_is_int : List PyData → R PyData := run 3 3 b_is_int
def N_rises : List Str := ["some", "one", "other"]
def b_rises : S :=
 (.seq (.ret (.un .all (.comp (.zip2 (.var 0) (.bi .sfrom (.var 0) (.cst (.int 1)))) (.tp [(.nm 1), (.nm 2)]) (.bi .lt (.var 1) (.var 2)) [("one", 1), ("other", 2)])))
 .nil)
def f_rises : List PyData → R PyData := run 1 3 b_rises
def N_is_row : List Str := ["value", "signs", "sign"]
def b_is_row : S :=
 (.seq (.ret (.an (.un (.isi "str") (.var 0)) (.an (.un .all (.comp (.seq (.var 0)) (.nm 2) (.bi .inn (.var 2) (.var 1)) [("sign", 2)])) (.fn "rises" f_rises (.cons (.var 0) .nil)))))
 .nil)
def f_is_row : List PyData → R PyData := run 2 3 b_is_row
def N_is_time : List Str := ["value"]
def b_is_time : S :=
 (.seq (.iff (.oo (.nt (.un (.isi "tuple") (.var 0))) (.oo (.bi .ne (.un .len (.var 0)) (.cst (.int 3))) (.oo (.nt (.fn "is_row" f_is_row (.cons (.bi .idx (.var 0) (.cst (.int 0))) (.cons (.glb "DAYS" (.str "0123456")) .nil)))) (.bi .eq (.bi .idx (.var 0) (.cst (.int 0))) (.cst (.str ""))))))
 (.seq (.ret (.cst (.bool false)))
 .nil)
 .nil)
 (.seq (.ret (.an (.fn "is_int" f_is_int (.cons (.bi .idx (.var 0) (.cst (.int 1))) (.cons (.cst (.int 0)) (.cons (.bi .sub (.glb "DAY" (.int 24)) (.cst (.int 1))) .nil)))) (.fn "is_int" f_is_int (.cons (.bi .idx (.var 0) (.cst (.int 2))) (.cons (.cst (.int 0)) (.cons (.bi .sub (.glb "DAY" (.int 24)) (.cst (.int 1))) .nil))))))
 .nil))
def f_is_time : List PyData → R PyData := run 1 1 b_is_time
def N_is_settings : List Str := ["candidate", "quiet", "friends", "blocked", "again", "time", "caller"]
def b_is_settings : S :=
 (.seq (.iff (.oo (.nt (.un (.isi "tuple") (.var 0))) (.bi .ne (.un .len (.var 0)) (.cst (.int 4))))
 (.seq (.ret (.cst (.bool false)))
 .nil)
 .nil)
 (.seq (.asg (.tp [(.nm 1), (.nm 2), (.nm 3), (.nm 4)]) (.var 0))
 (.seq (.iff (.oo (.nt (.un (.isi "tuple") (.var 1))) (.oo (.bi .gt (.un .len (.var 1)) (.glb "MAX_QUIET" (.int 4))) (.nt (.un .all (.comp (.seq (.var 1)) (.nm 5) (.fn "is_time" f_is_time (.cons (.var 5) .nil)) [("time", 5)])))))
 (.seq (.ret (.cst (.bool false)))
 .nil)
 .nil)
 (.seq (.iff (.oo (.nt (.fn "rises" f_rises (.cons (.var 1) .nil))) (.oo (.nt (.fn "is_row" f_is_row (.cons (.var 2) (.cons (.glb "CALLERS" (.str "abcdef")) .nil)))) (.nt (.fn "is_row" f_is_row (.cons (.var 3) (.cons (.glb "CALLERS" (.str "abcdef")) .nil))))))
 (.seq (.ret (.cst (.bool false)))
 .nil)
 .nil)
 (.seq (.ret (.an (.nt (.un .any (.comp (.seq (.var 2)) (.nm 6) (.bi .inn (.var 6) (.var 3)) [("caller", 6)]))) (.fn "is_int" f_is_int (.cons (.var 4) (.cons (.cst (.int 0)) (.cons (.glb "MAX_AGAIN" (.int 59)) .nil))))))
 .nil)))))
def f_is_settings : List PyData → R PyData := run 1 7 b_is_settings
def N_is_caller : List Str := ["value"]
def b_is_caller : S :=
 (.seq (.ret (.an (.un (.isi "str") (.var 0)) (.an (.bi .eq (.un .len (.var 0)) (.cst (.int 1))) (.bi .inn (.var 0) (.glb "CALLERS" (.str "abcdef"))))))
 .nil)
def f_is_caller : List PyData → R PyData := run 1 1 b_is_caller
def N_is_call : List Str := ["value"]
def b_is_call : S :=
 (.seq (.iff (.oo (.nt (.un (.isi "tuple") (.var 0))) (.bi .ne (.un .len (.var 0)) (.cst (.int 2))))
 (.seq (.ret (.cst (.bool false)))
 .nil)
 .nil)
 (.seq (.ret (.an (.fn "is_int" f_is_int (.cons (.bi .idx (.var 0) (.cst (.int 0))) (.cons (.cst (.int 0)) (.cons (.bi .sub (.bi .mul (.glb "WEEK" (.int 168)) (.glb "HOUR" (.int 60))) (.cst (.int 1))) .nil)))) (.fn "is_caller" f_is_caller (.cons (.bi .idx (.var 0) (.cst (.int 1))) .nil))))
 .nil))
def f_is_call : List PyData → R PyData := run 1 1 b_is_call
def N_are_calls : List Str := ["candidate", "call"]
def b_are_calls : S :=
 (.seq (.iff (.oo (.nt (.un (.isi "tuple") (.var 0))) (.bi .gt (.un .len (.var 0)) (.glb "MAX_CALLS" (.int 12))))
 (.seq (.ret (.cst (.bool false)))
 .nil)
 .nil)
 (.seq (.ret (.an (.un .all (.comp (.seq (.var 0)) (.nm 1) (.fn "is_call" f_is_call (.cons (.var 1) .nil)) [("call", 1)])) (.fn "rises" f_rises (.cons (.comp (.seq (.var 0)) (.nm 1) (.bi .idx (.var 1) (.cst (.int 0))) [("call", 1)]) .nil))))
 .nil))
def f_are_calls : List PyData → R PyData := run 1 2 b_are_calls
def N_check_settings : List Str := ["value"]
def b_check_settings : S :=
 (.seq (.iff (.nt (.fn "is_settings" f_is_settings (.cons (.var 0) .nil)))
 (.seq (.rai "InvalidSettings")
 .nil)
 .nil)
 .nil)
def f_check_settings : List PyData → R PyData := run 1 1 b_check_settings
def N_check_minute : List Str := ["value"]
def b_check_minute : S :=
 (.seq (.iff (.nt (.fn "is_int" f_is_int (.cons (.var 0) (.cons (.cst (.int 0)) (.cons (.bi .sub (.bi .mul (.glb "WEEK" (.int 168)) (.glb "HOUR" (.int 60))) (.cst (.int 1))) .nil)))))
 (.seq (.rai "InvalidMinute")
 .nil)
 .nil)
 .nil)
def f_check_minute : List PyData → R PyData := run 1 1 b_check_minute
def N_check_caller : List Str := ["value"]
def b_check_caller : S :=
 (.seq (.iff (.nt (.fn "is_caller" f_is_caller (.cons (.var 0) .nil)))
 (.seq (.rai "InvalidCaller")
 .nil)
 .nil)
 .nil)
def f_check_caller : List PyData → R PyData := run 1 1 b_check_caller
def N_check_calls : List Str := ["settings", "calls"]
def b_check_calls : S :=
 (.seq (.evl (.fn "check_settings" f_check_settings (.cons (.var 0) .nil)))
 (.seq (.iff (.nt (.fn "are_calls" f_are_calls (.cons (.var 1) .nil)))
 (.seq (.rai "InvalidCalls")
 .nil)
 .nil)
 .nil))
def f_check_calls : List PyData → R PyData := run 2 2 b_check_calls
def N_hours_of : List Str := ["time", "days", "begin", "end", "many", "found", "day", "first", "hour"]
def b_hours_of : S :=
 (.seq (.asg (.tp [(.nm 1), (.nm 2), (.nm 3)]) (.var 0))
 (.seq (.par [4, 5] (.cons (.bi .add (.bi .mod (.bi .sub (.bi .sub (.var 3) (.var 2)) (.cst (.int 1))) (.glb "DAY" (.int 24))) (.cst (.int 1))) (.cons (.lst .nil) .nil)))
 (.seq (.forr (.seq (.var 1)) (.nm 6)
 (.seq (.asg (.nm 7) (.bi .add (.bi .mul (.un .toInt (.var 6)) (.glb "DAY" (.int 24))) (.var 2)))
 (.seq (.ext 5 (.comp (.rng2 (.var 7) (.bi .add (.var 7) (.var 4))) (.nm 8) (.bi .mod (.var 8) (.glb "WEEK" (.int 168))) [("hour", 8)]))
 .nil)))
 (.seq (.frz 5)
 (.seq (.ret (.var 5))
 .nil)))))
def f_hours_of : List PyData → R PyData := run 1 9 b_hours_of
def N_find_hours : List Str := ["quiet", "found", "time"]
def b_find_hours : S :=
 (.seq (.own 1 .nil)
 (.seq (.forr (.seq (.var 0)) (.nm 2)
 (.seq (.ext 1 (.fn "hours_of" f_hours_of (.cons (.var 2) .nil)))
 .nil))
 (.seq (.frz 1)
 (.seq (.ret (.un .sset (.var 1)))
 .nil))))
def f_find_hours : List PyData → R PyData := run 1 3 b_find_hours
def N_is_quiet : List Str := ["settings", "minute"]
def b_is_quiet : S :=
 (.seq (.evl (.fn "check_settings" f_check_settings (.cons (.var 0) .nil)))
 (.seq (.evl (.fn "check_minute" f_check_minute (.cons (.var 1) .nil)))
 (.seq (.ret (.bi .inn (.bi .fdiv (.var 1) (.glb "HOUR" (.int 60))) (.fn "find_hours" f_find_hours (.cons (.bi .idx (.var 0) (.cst (.int 0))) .nil))))
 .nil)))
def f_is_quiet : List PyData → R PyData := run 2 2 b_is_quiet
def N_find_kind : List Str := ["settings", "caller"]
def b_find_kind : S :=
 (.seq (.iff (.bi .inn (.var 1) (.bi .idx (.var 0) (.cst (.int 1))))
 (.seq (.ret (.glb "FRIEND" (.str "friend")))
 .nil)
 .nil)
 (.seq (.ret (.ite (.bi .inn (.var 1) (.bi .idx (.var 0) (.cst (.int 2)))) (.glb "BLOCKED" (.str "blocked")) (.glb "OTHER" (.str "other"))))
 .nil))
def f_find_kind : List PyData → R PyData := run 2 2 b_find_kind
def N_kind_of : List Str := ["settings", "caller"]
def b_kind_of : S :=
 (.seq (.evl (.fn "check_settings" f_check_settings (.cons (.var 0) .nil)))
 (.seq (.evl (.fn "check_caller" f_check_caller (.cons (.var 1) .nil)))
 (.seq (.ret (.fn "find_kind" f_find_kind (.cons (.var 0) (.cons (.var 1) .nil))))
 .nil)))
def f_kind_of : List PyData → R PyData := run 2 2 b_kind_of
def N_comes_again : List Str := ["calls", "number", "again", "minute", "caller", "before", "other"]
def b_comes_again : S :=
 (.seq (.asg (.tp [(.nm 3), (.nm 4)]) (.bi .idx (.var 0) (.var 1)))
 (.seq (.ret (.un .any (.comp (.seq (.bi .sto (.var 0) (.var 1))) (.tp [(.nm 5), (.nm 6)]) (.an (.bi .eq (.var 6) (.var 4)) (.bi .le (.bi .sub (.var 3) (.var 5)) (.var 2))) [("before", 5), ("other", 6)])))
 .nil))
def f_comes_again : List PyData → R PyData := run 3 7 b_comes_again
def N_find_reasons : List Str := ["settings", "calls", "hours", "found", "number", "minute", "caller", "kind"]
def b_find_reasons : S :=
 (.seq (.par [2, 3] (.cons (.fn "find_hours" f_find_hours (.cons (.bi .idx (.var 0) (.cst (.int 0))) .nil)) (.cons (.lst .nil) .nil)))
 (.seq (.forr (.enm (.var 1)) (.tp [(.nm 4), (.tp [(.nm 5), (.nm 6)])])
 (.seq (.asg (.nm 7) (.fn "find_kind" f_find_kind (.cons (.var 0) (.cons (.var 6) .nil))))
 (.seq (.iff (.bi .inn (.var 7) (.tup (.cons (.glb "BLOCKED" (.str "blocked")) (.cons (.glb "FRIEND" (.str "friend")) .nil))))
 (.seq (.app 3 (.var 7))
 .nil)
 (.seq (.iff (.bi .nin (.bi .fdiv (.var 5) (.glb "HOUR" (.int 60))) (.var 2))
 (.seq (.app 3 (.glb "FREE" (.str "free")))
 .nil)
 (.seq (.app 3 (.ite (.fn "comes_again" f_comes_again (.cons (.var 1) (.cons (.var 4) (.cons (.bi .idx (.var 0) (.cst (.int 3))) .nil)))) (.glb "AGAIN" (.str "again")) (.glb "QUIET" (.str "quiet"))))
 .nil))
 .nil))
 .nil)))
 (.seq (.frz 3)
 (.seq (.ret (.var 3))
 .nil))))
def f_find_reasons : List PyData → R PyData := run 2 8 b_find_reasons
def N_find_silent : List Str := ["settings", "calls", "number", "one"]
def b_find_silent : S :=
 (.seq (.ret (.compT (.enm (.fn "find_reasons" f_find_reasons (.cons (.var 0) (.cons (.var 1) .nil)))) (.tp [(.nm 2), (.nm 3)]) (.bi .inn (.var 3) (.tup (.cons (.glb "BLOCKED" (.str "blocked")) (.cons (.glb "QUIET" (.str "quiet")) .nil)))) (.var 2) [("number", 2), ("one", 3)]))
 .nil)
def f_find_silent : List PyData → R PyData := run 2 4 b_find_silent
def N_silent : List Str := ["settings", "calls"]
def b_silent : S :=
 (.seq (.evl (.fn "check_calls" f_check_calls (.cons (.var 0) (.cons (.var 1) .nil))))
 (.seq (.ret (.fn "find_silent" f_find_silent (.cons (.var 0) (.cons (.var 1) .nil))))
 .nil))
def f_silent : List PyData → R PyData := run 2 2 b_silent
def N_find_ringing : List Str := ["settings", "calls", "known", "number"]
def b_find_ringing : S :=
 (.seq (.asg (.nm 2) (.fn "find_silent" f_find_silent (.cons (.var 0) (.cons (.var 1) .nil))))
 (.seq (.ret (.compT (.rng1 (.un .len (.var 1))) (.nm 3) (.bi .nin (.var 3) (.var 2)) (.var 3) [("number", 3)]))
 .nil))
def f_find_ringing : List PyData → R PyData := run 2 4 b_find_ringing
def N_ringing : List Str := ["settings", "calls"]
def b_ringing : S :=
 (.seq (.evl (.fn "check_calls" f_check_calls (.cons (.var 0) (.cons (.var 1) .nil))))
 (.seq (.ret (.fn "find_ringing" f_find_ringing (.cons (.var 0) (.cons (.var 1) .nil))))
 .nil))
def f_ringing : List PyData → R PyData := run 2 2 b_ringing
def N_reasons : List Str := ["settings", "calls"]
def b_reasons : S :=
 (.seq (.evl (.fn "check_calls" f_check_calls (.cons (.var 0) (.cons (.var 1) .nil))))
 (.seq (.ret (.fn "find_reasons" f_find_reasons (.cons (.var 0) (.cons (.var 1) .nil))))
 .nil))
def f_reasons : List PyData → R PyData := run 2 2 b_reasons
def N_reached : List Str := ["settings", "calls", "number"]
def b_reached : S :=
 (.seq (.evl (.fn "check_calls" f_check_calls (.cons (.var 0) (.cons (.var 1) .nil))))
 (.seq (.ret (.bi .join (.cst (.str "")) (.un .sset (.comp (.seq (.fn "find_ringing" f_find_ringing (.cons (.var 0) (.cons (.var 1) .nil)))) (.nm 2) (.bi .idx (.bi .idx (.var 1) (.var 2)) (.cst (.int 1))) [("number", 2)]))))
 .nil))
def f_reached : List PyData → R PyData := run 2 3 b_reached
def N__law_drawn : List Str := ["script", "k", "many", "cell", "turn", "rest"]
def b__law_drawn : S :=
 (.seq (.asg (.nm 3) (.bi .mul (.cst (.int 7)) (.var 1)))
 (.seq (.iff (.bi .ne (.var 0) (.lst .nil))
 (.seq (.asg (.nm 3) (.bi .idx (.var 0) (.bi .mod (.var 1) (.un .len (.var 0)))))
 (.seq (.asg (.nm 4) (.bi .fdiv (.var 1) (.un .len (.var 0))))
 (.seq (.iff (.an (.bi .ge (.var 3) (.bi .pow (.cst (.int 10)) (.cst (.int 18)))) (.bi .lt (.var 4) (.cst (.int 60))))
 (.seq (.asg (.nm 5) (.bi .fdiv (.var 3) (.bi .pow (.cst (.int 10)) (.cst (.int 18)))))
 (.seq (.whl 1000 (.an (.bi .gt (.var 5) (.cst (.int 0))) (.bi .gt (.var 4) (.cst (.int 0))))
 (.seq (.asg (.nm 5) (.bi .fdiv (.var 5) (.cst (.int 1000000))))
 (.seq (.asg (.nm 4) (.bi .sub (.var 4) (.cst (.int 1))))
 .nil)))
 (.seq (.iff (.bi .gt (.var 5) (.cst (.int 0)))
 (.seq (.ret (.bi .mod (.bi .mod (.var 5) (.cst (.int 1000000))) (.var 2)))
 .nil)
 .nil)
 .nil)))
 .nil)
 (.seq (.asg (.nm 3) (.bi .add (.var 3) (.bi .mul (.cst (.int 6553)) (.bi .fdiv (.var 1) (.un .len (.var 0))))))
 .nil))))
 .nil)
 (.seq (.asg (.nm 3) (.bi .mod (.bi .add (.bi .mul (.bi .mod (.var 3) (.cst (.int 2147483563))) (.cst (.int 69069))) (.bi .mul (.cst (.int 104723)) (.bi .add (.var 1) (.cst (.int 1))))) (.cst (.int 2147483563))))
 (.seq (.asg (.nm 3) (.bi .mod (.bi .add (.bi .mul (.var 3) (.var 3)) (.bi .fdiv (.var 3) (.cst (.int 3)))) (.cst (.int 2147483399))))
 (.seq (.ret (.bi .mod (.bi .fdiv (.bi .mod (.bi .add (.bi .mul (.var 3) (.var 3)) (.bi .fdiv (.var 3) (.cst (.int 7)))) (.cst (.int 2147483647))) (.cst (.int 11))) (.var 2)))
 .nil)))))
def f__law_drawn : List PyData → R PyData := run 3 6 b__law_drawn
def N__law_settings : List Str := ["script", "at", "found", "k", "days", "day", "begin", "end", "kinds", "friends", "blocked", "again"]
def b__law_settings : S :=
 (.seq (.own 2 .nil)
 (.seq (.forr (.rng1 (.bi .add (.fn "_law_drawn" f__law_drawn (.cons (.var 0) (.cons (.var 1) (.cons (.cst (.int 4)) .nil)))) (.fn "_law_drawn" f__law_drawn (.cons (.var 0) (.cons (.bi .add (.var 1) (.cst (.int 1))) (.cons (.cst (.int 2)) .nil)))))) (.nm 3)
 (.seq (.asg (.nm 4) (.bi .join (.cst (.str "")) (.compT (.seq (.cst (.str "0123456"))) (.nm 5) (.bi .gt (.fn "_law_drawn" f__law_drawn (.cons (.var 0) (.cons (.bi .add (.bi .add (.bi .add (.var 1) (.cst (.int 2))) (.bi .mul (.cst (.int 10)) (.var 3))) (.un .toInt (.var 5))) (.cons (.cst (.int 3)) .nil)))) (.cst (.int 0))) (.var 5) [("day", 5)])))
 (.seq (.asg (.nm 4) (.ite (.bi .ne (.var 4) (.cst (.str ""))) (.var 4) (.cst (.str "3"))))
 (.seq (.par [6, 7] (.cons (.fn "_law_drawn" f__law_drawn (.cons (.var 0) (.cons (.bi .add (.bi .add (.var 1) (.cst (.int 9))) (.bi .mul (.cst (.int 10)) (.var 3))) (.cons (.cst (.int 24)) .nil)))) (.cons (.fn "_law_drawn" f__law_drawn (.cons (.var 0) (.cons (.bi .add (.bi .add (.var 1) (.cst (.int 10))) (.bi .mul (.cst (.int 10)) (.var 3))) (.cons (.cst (.int 24)) .nil)))) .nil)))
 (.seq (.app 2 (.tup (.cons (.var 4) (.cons (.var 6) (.cons (.var 7) .nil)))))
 .nil)))))
 (.seq (.asg (.nm 8) (.comp (.rng1 (.cst (.int 6))) (.nm 3) (.fn "_law_drawn" f__law_drawn (.cons (.var 0) (.cons (.bi .add (.bi .add (.var 1) (.cst (.int 45))) (.var 3)) (.cons (.cst (.int 4)) .nil)))) [("k", 3)]))
 (.seq (.asg (.nm 9) (.bi .join (.cst (.str "")) (.compT (.rng1 (.cst (.int 6))) (.nm 3) (.bi .eq (.bi .idx (.var 8) (.var 3)) (.cst (.int 0))) (.bi .idx (.cst (.str "abcdef")) (.var 3)) [("k", 3)])))
 (.seq (.asg (.nm 10) (.bi .join (.cst (.str "")) (.compT (.rng1 (.cst (.int 6))) (.nm 3) (.bi .eq (.bi .idx (.var 8) (.var 3)) (.cst (.int 1))) (.bi .idx (.cst (.str "abcdef")) (.var 3)) [("k", 3)])))
 (.seq (.asg (.nm 11) (.bi .idx (.lst (.cons (.cst (.int 0)) (.cons (.cst (.int 15)) (.cons (.cst (.int 59)) (.cons (.fn "_law_drawn" f__law_drawn (.cons (.var 0) (.cons (.bi .add (.var 1) (.cst (.int 52))) (.cons (.cst (.int 60)) .nil)))) .nil))))) (.fn "_law_drawn" f__law_drawn (.cons (.var 0) (.cons (.bi .add (.var 1) (.cst (.int 51))) (.cons (.cst (.int 4)) .nil))))))
 (.seq (.frz 2)
 (.seq (.ret (.tup (.cons (.un .toTuple (.un .sset (.var 2))) (.cons (.var 9) (.cons (.var 10) (.cons (.var 11) .nil))))))
 .nil))))))))
def f__law_settings : List PyData → R PyData := run 2 12 b__law_settings
def N__law_hours : List Str := ["settings", "found", "days", "begin", "end", "day", "hour"]
def b__law_hours : S :=
 (.seq (.own 1 .nil)
 (.seq (.forr (.seq (.bi .idx (.var 0) (.cst (.int 0)))) (.tp [(.nm 2), (.nm 3), (.nm 4)])
 (.seq (.forr (.seq (.var 2)) (.nm 5)
 (.seq (.asg (.nm 6) (.bi .add (.bi .mul (.cst (.int 24)) (.un .toInt (.var 5))) (.var 3)))
 (.seq (.whl 1000 (.oo (.bi .eq (.var 6) (.bi .add (.bi .mul (.cst (.int 24)) (.un .toInt (.var 5))) (.var 3))) (.bi .ne (.bi .mod (.var 6) (.cst (.int 24))) (.var 4)))
 (.seq (.app 1 (.bi .mod (.var 6) (.cst (.int 168))))
 (.seq (.asg (.nm 6) (.bi .add (.var 6) (.cst (.int 1))))
 .nil)))
 .nil)))
 .nil))
 (.seq (.frz 1)
 (.seq (.ret (.un .sset (.var 1)))
 .nil))))
def f__law_hours : List PyData → R PyData := run 1 7 b__law_hours
def N__law_calls : List Str := ["script", "at", "settings", "most", "found", "minute", "k", "some", "call"]
def b__law_calls : S :=
 (.seq (.par [4, 5] (.cons (.lst .nil) (.cons (.bi .add (.bi .mul (.cst (.int 60)) (.fn "_law_drawn" f__law_drawn (.cons (.var 0) (.cons (.var 1) (.cons (.cst (.int 160)) .nil))))) (.fn "_law_drawn" f__law_drawn (.cons (.var 0) (.cons (.bi .add (.var 1) (.cst (.int 1))) (.cons (.cst (.int 60)) .nil))))) .nil)))
 (.seq (.forr (.rng1 (.fn "_law_drawn" f__law_drawn (.cons (.var 0) (.cons (.bi .add (.var 1) (.cst (.int 2))) (.cons (.bi .add (.var 3) (.cst (.int 1))) .nil))))) (.nm 6)
 (.seq (.app 4 (.tup (.cons (.var 5) (.cons (.bi .idx (.cst (.str "abcdef")) (.fn "_law_drawn" f__law_drawn (.cons (.var 0) (.cons (.bi .add (.bi .add (.var 1) (.cst (.int 4))) (.bi .mul (.cst (.int 3)) (.var 6))) (.cons (.bi .add (.cst (.int 3)) (.bi .mul (.cst (.int 3)) (.fn "_law_drawn" f__law_drawn (.cons (.var 0) (.cons (.bi .add (.var 1) (.cst (.int 3))) (.cons (.cst (.int 2)) .nil)))))) .nil))))) .nil))))
 (.seq (.asg (.nm 7) (.lst (.cons (.cst (.int 1)) (.cons (.bi .idx (.var 2) (.cst (.int 3))) (.cons (.bi .add (.bi .idx (.var 2) (.cst (.int 3))) (.cst (.int 1))) (.cons (.cst (.int 20)) (.cons (.cst (.int 60)) .nil)))))))
 (.seq (.asg (.nm 7) (.bi .add (.var 7) (.lst (.cons (.bi .add (.cst (.int 1)) (.fn "_law_drawn" f__law_drawn (.cons (.var 0) (.cons (.bi .add (.bi .add (.var 1) (.cst (.int 5))) (.bi .mul (.cst (.int 3)) (.var 6))) (.cons (.cst (.int 700)) .nil))))) .nil))))
 (.seq (.asg (.nm 5) (.bi .add (.var 5) (.bi .max2 (.cst (.int 1)) (.bi .idx (.var 7) (.fn "_law_drawn" f__law_drawn (.cons (.var 0) (.cons (.bi .add (.bi .add (.var 1) (.cst (.int 6))) (.bi .mul (.cst (.int 3)) (.var 6))) (.cons (.cst (.int 6)) .nil))))))))
 .nil)))))
 (.seq (.frz 4)
 (.seq (.ret (.un .toTuple (.compT (.seq (.var 4)) (.nm 8) (.bi .lt (.bi .idx (.var 8) (.cst (.int 0))) (.cst (.int 10080))) (.var 8) [("call", 8)])))
 .nil))))
def f__law_calls : List PyData → R PyData := run 4 9 b__law_calls
def N__law_badsettings : List Str := ["script", "at", "time", "bad", "odd"]
def b__law_badsettings : S :=
 (.seq (.asg (.nm 2) (.tup (.cons (.cst (.str "01")) (.cons (.cst (.int 22)) (.cons (.cst (.int 7)) .nil)))))
 (.seq (.own 3 (.cons (.cst .none) (.cons (.tup .nil) (.cons (.tup (.cons (.tup (.cons (.var 2) .nil)) (.cons (.cst (.str "a")) (.cons (.cst (.str "f")) .nil)))) (.cons (.tup (.cons (.lst (.cons (.var 2) .nil)) (.cons (.cst (.str "a")) (.cons (.cst (.str "f")) (.cons (.cst (.int 15)) .nil))))) (.cons (.lst (.cons (.tup (.cons (.var 2) .nil)) (.cons (.cst (.str "a")) (.cons (.cst (.str "f")) (.cons (.cst (.int 15)) .nil))))) .nil))))))
 (.seq (.frz 3)
 (.seq (.ownA 3 (.var 3) (.lst (.cons (.tup (.cons (.tup (.cons (.var 2) .nil)) (.cons (.cst (.str "ba")) (.cons (.cst (.str "")) (.cons (.cst (.int 15)) .nil))))) (.cons (.tup (.cons (.tup (.cons (.var 2) .nil)) (.cons (.cst (.str "a")) (.cons (.cst (.str "a")) (.cons (.cst (.int 15)) .nil))))) .nil))))
 (.seq (.frz 3)
 (.seq (.ownA 3 (.var 3) (.lst (.cons (.tup (.cons (.tup (.cons (.var 2) .nil)) (.cons (.cst (.str "g")) (.cons (.cst (.str "")) (.cons (.cst (.int 15)) .nil))))) (.cons (.tup (.cons (.tup (.cons (.var 2) .nil)) (.cons (.cst (.str "")) (.cons (.cst (.str "")) (.cons (.cst (.int 60)) .nil))))) (.cons (.tup (.cons (.tup (.cons (.var 2) .nil)) (.cons (.cst (.str "")) (.cons (.cst (.str "")) (.cons (.un .neg (.cst (.int 1))) .nil))))) .nil)))))
 (.seq (.frz 3)
 (.seq (.ownA 3 (.var 3) (.lst (.cons (.tup (.cons (.tup (.cons (.var 2) (.cons (.var 2) .nil))) (.cons (.cst (.str "")) (.cons (.cst (.str "")) (.cons (.cst (.int 0)) .nil))))) (.cons (.tup (.cons (.tup (.cons (.var 2) .nil)) (.cons (.cst (.str "")) (.cons (.cst (.str "")) (.cons (.cst (.bool true)) .nil))))) .nil))))
 (.seq (.forr (.seq (.tup (.cons (.tup (.cons (.cst (.str "")) (.cons (.cst (.int 22)) (.cons (.cst (.int 7)) .nil)))) (.cons (.tup (.cons (.cst (.str "10")) (.cons (.cst (.int 22)) (.cons (.cst (.int 7)) .nil)))) (.cons (.tup (.cons (.cst (.str "7")) (.cons (.cst (.int 22)) (.cons (.cst (.int 7)) .nil)))) (.cons (.tup (.cons (.cst (.str "01")) (.cons (.cst (.int 24)) (.cons (.cst (.int 7)) .nil)))) (.cons (.tup (.cons (.cst (.str "01")) (.cons (.cst (.int 22)) (.cons (.un .neg (.cst (.int 1))) .nil)))) (.cons (.tup (.cons (.cst (.str "01")) (.cons (.cst (.int 22)) .nil))) .nil)))))))) (.nm 4)
 (.seq (.app 3 (.tup (.cons (.tup (.cons (.var 4) .nil)) (.cons (.cst (.str "")) (.cons (.cst (.str "")) (.cons (.cst (.int 0)) .nil))))))
 .nil))
 (.seq (.frz 3)
 (.seq (.ret (.bi .idx (.var 3) (.fn "_law_drawn" f__law_drawn (.cons (.var 0) (.cons (.var 1) (.cons (.cst (.int 18)) .nil))))))
 .nil)))))))))))
def f__law_badsettings : List PyData → R PyData := run 2 5 b__law_badsettings
def N__law_badcalls : List Str := ["script", "at", "bad", "k"]
def b__law_badcalls : S :=
 (.seq (.asg (.nm 2) (.lst (.cons (.cst .none) (.cons (.lst (.cons (.tup (.cons (.cst (.int 5)) (.cons (.cst (.str "a")) .nil))) .nil)) (.cons (.tup (.cons (.tup (.cons (.cst (.int 10080)) (.cons (.cst (.str "a")) .nil))) .nil)) (.cons (.tup (.cons (.tup (.cons (.un .neg (.cst (.int 1))) (.cons (.cst (.str "a")) .nil))) .nil)) (.cons (.tup (.cons (.tup (.cons (.cst (.int 5)) (.cons (.cst (.str "g")) .nil))) .nil)) (.cons (.tup (.cons (.tup (.cons (.cst (.int 5)) (.cons (.cst (.str "a")) .nil))) (.cons (.tup (.cons (.cst (.int 5)) (.cons (.cst (.str "b")) .nil))) .nil))) .nil))))))))
 (.seq (.asg (.nm 2) (.bi .add (.var 2) (.lst (.cons (.tup (.cons (.tup (.cons (.cst (.int 6)) (.cons (.cst (.str "a")) .nil))) (.cons (.tup (.cons (.cst (.int 5)) (.cons (.cst (.str "a")) .nil))) .nil))) (.cons (.tup (.cons (.tup (.cons (.cst (.bool true)) (.cons (.cst (.str "a")) .nil))) .nil)) (.cons (.tup (.cons (.tup (.cons (.cst (.int 5)) (.cons (.cst (.str "")) .nil))) .nil)) .nil))))))
 (.seq (.ret (.bi .idx (.bi .add (.var 2) (.lst (.cons (.tup (.cons (.tup (.cons (.cst (.int 5)) (.cons (.cst (.str "ab")) .nil))) .nil)) (.cons (.tup (.cons (.cst (.int 5)) (.cons (.cst (.str "a")) .nil))) (.cons (.un .toTuple (.comp (.rng1 (.cst (.int 13))) (.nm 3) (.tup (.cons (.var 3) (.cons (.cst (.str "a")) .nil))) [("k", 3)])) .nil))))) (.fn "_law_drawn" f__law_drawn (.cons (.var 0) (.cons (.var 1) (.cons (.cst (.int 12)) .nil))))))
 .nil)))
def f__law_badcalls : List PyData → R PyData := run 2 4 b__law_badcalls
def N_add : List Str := ["callers", "caller"]
def b_add : S :=
 (.seq (.ret (.bi .join (.cst (.str "")) (.un .sset (.bi .add (.var 0) (.var 1)))))
 .nil)
def f_add : List PyData → R PyData := run 2 2 b_add
def N_with_friend : List Str := ["settings", "caller", "quiet", "friends", "blocked", "again"]
def b_with_friend : S :=
 (.seq (.evl (.fn "check_settings" f_check_settings (.cons (.var 0) .nil)))
 (.seq (.evl (.fn "check_caller" f_check_caller (.cons (.var 1) .nil)))
 (.seq (.asg (.tp [(.nm 2), (.nm 3), (.nm 4), (.nm 5)]) (.var 0))
 (.seq (.ret (.tup (.cons (.var 2) (.cons (.fn "add" f_add (.cons (.var 3) (.cons (.var 1) .nil))) (.cons (.repl (.var 4) (.var 1) (.cst (.str ""))) (.cons (.var 5) .nil))))))
 .nil))))
def f_with_friend : List PyData → R PyData := run 2 6 b_with_friend
def N_with_blocked : List Str := ["settings", "caller", "quiet", "friends", "blocked", "again"]
def b_with_blocked : S :=
 (.seq (.evl (.fn "check_settings" f_check_settings (.cons (.var 0) .nil)))
 (.seq (.evl (.fn "check_caller" f_check_caller (.cons (.var 1) .nil)))
 (.seq (.asg (.tp [(.nm 2), (.nm 3), (.nm 4), (.nm 5)]) (.var 0))
 (.seq (.ret (.tup (.cons (.var 2) (.cons (.repl (.var 3) (.var 1) (.cst (.str ""))) (.cons (.fn "add" f_add (.cons (.var 4) (.cons (.var 1) .nil))) (.cons (.var 5) .nil))))))
 .nil))))
def f_with_blocked : List PyData → R PyData := run 2 6 b_with_blocked
def N_drop : List Str := ["settings", "index", "quiet"]
def b_drop : S :=
 (.seq (.asg (.nm 2) (.bi .idx (.var 0) (.cst (.int 0))))
 (.seq (.ret (.bi .add (.tup (.cons (.bi .add (.bi .sto (.var 2) (.var 1)) (.bi .sfrom (.var 2) (.bi .add (.var 1) (.cst (.int 1))))) .nil)) (.bi .sfrom (.var 0) (.cst (.int 1)))))
 .nil))
def f_drop : List PyData → R PyData := run 2 3 b_drop
def N_without_quiet : List Str := ["settings", "index"]
def b_without_quiet : S :=
 (.seq (.evl (.fn "check_settings" f_check_settings (.cons (.var 0) .nil)))
 (.seq (.iff (.nt (.fn "is_int" f_is_int (.cons (.var 1) (.cons (.cst (.int 0)) (.cons (.bi .sub (.un .len (.bi .idx (.var 0) (.cst (.int 0)))) (.cst (.int 1))) .nil)))))
 (.seq (.rai "InvalidIndex")
 .nil)
 .nil)
 (.seq (.ret (.fn "drop" f_drop (.cons (.var 0) (.cons (.var 1) .nil))))
 .nil)))
def f_without_quiet : List PyData → R PyData := run 2 2 b_without_quiet
def N_quiet_hours : List Str := ["settings"]
def b_quiet_hours : S :=
 (.seq (.evl (.fn "check_settings" f_check_settings (.cons (.var 0) .nil)))
 (.seq (.ret (.fn "find_hours" f_find_hours (.cons (.bi .idx (.var 0) (.cst (.int 0))) .nil)))
 .nil))
def f_quiet_hours : List PyData → R PyData := run 1 1 b_quiet_hours
def N_longest_row : List Str := ["hours", "best", "many", "hour"]
def b_longest_row : S :=
 (.seq (.iff (.bi .eq (.un .len (.var 0)) (.glb "WEEK" (.int 168)))
 (.seq (.ret (.cst .none))
 .nil)
 .nil)
 (.seq (.par [1, 2] (.cons (.cst (.int 0)) (.cons (.cst (.int 0)) .nil)))
 (.seq (.forr (.rng1 (.bi .mul (.cst (.int 2)) (.glb "WEEK" (.int 168)))) (.nm 3)
 (.seq (.asg (.nm 2) (.ite (.bi .inn (.bi .mod (.var 3) (.glb "WEEK" (.int 168))) (.var 0)) (.bi .add (.var 2) (.cst (.int 1))) (.cst (.int 0))))
 (.seq (.asg (.nm 1) (.bi .max2 (.var 1) (.var 2)))
 .nil)))
 (.seq (.ret (.var 1))
 .nil))))
def f_longest_row : List PyData → R PyData := run 1 4 b_longest_row
def N_longest_quiet : List Str := ["settings"]
def b_longest_quiet : S :=
 (.seq (.evl (.fn "check_settings" f_check_settings (.cons (.var 0) .nil)))
 (.seq (.ret (.fn "longest_row" f_longest_row (.cons (.fn "find_hours" f_find_hours (.cons (.bi .idx (.var 0) (.cst (.int 0))) .nil)) .nil)))
 .nil))
def f_longest_quiet : List PyData → R PyData := run 1 1 b_longest_quiet
def N_longest_free : List Str := ["settings", "known", "hour"]
def b_longest_free : S :=
 (.seq (.evl (.fn "check_settings" f_check_settings (.cons (.var 0) .nil)))
 (.seq (.asg (.nm 1) (.fn "find_hours" f_find_hours (.cons (.bi .idx (.var 0) (.cst (.int 0))) .nil)))
 (.seq (.ret (.fn "longest_row" f_longest_row (.cons (.compT (.rng1 (.glb "WEEK" (.int 168))) (.nm 2) (.bi .nin (.var 2) (.var 1)) (.var 2) [("hour", 2)]) .nil)))
 .nil)))
def f_longest_free : List PyData → R PyData := run 1 3 b_longest_free
def N_needless : List Str := ["settings", "known", "index"]
def b_needless : S :=
 (.seq (.evl (.fn "check_settings" f_check_settings (.cons (.var 0) .nil)))
 (.seq (.asg (.nm 1) (.fn "find_hours" f_find_hours (.cons (.bi .idx (.var 0) (.cst (.int 0))) .nil)))
 (.seq (.ret (.compT (.rng1 (.un .len (.bi .idx (.var 0) (.cst (.int 0))))) (.nm 2) (.bi .eq (.fn "find_hours" f_find_hours (.cons (.bi .idx (.fn "drop" f_drop (.cons (.var 0) (.cons (.var 2) .nil))) (.cst (.int 0))) .nil)) (.var 1)) (.var 2) [("index", 2)]))
 .nil)))
def f_needless : List PyData → R PyData := run 1 3 b_needless
def N_check_two : List Str := ["one", "other"]
def b_check_two : S :=
 (.seq (.evl (.fn "check_settings" f_check_settings (.cons (.var 0) .nil)))
 (.seq (.evl (.fn "check_settings" f_check_settings (.cons (.var 1) .nil)))
 .nil))
def f_check_two : List PyData → R PyData := run 2 2 b_check_two
def N_same_quiet : List Str := ["one", "other"]
def b_same_quiet : S :=
 (.seq (.evl (.fn "check_two" f_check_two (.cons (.var 0) (.cons (.var 1) .nil))))
 (.seq (.ret (.bi .eq (.fn "find_hours" f_find_hours (.cons (.bi .idx (.var 0) (.cst (.int 0))) .nil)) (.fn "find_hours" f_find_hours (.cons (.bi .idx (.var 1) (.cst (.int 0))) .nil))))
 .nil))
def f_same_quiet : List PyData → R PyData := run 2 2 b_same_quiet
def N_find_effect : List Str := ["settings", "hours", "caller", "kind"]
def b_find_effect : S :=
 (.seq (.asg (.nm 3) (.fn "find_kind" f_find_kind (.cons (.var 0) (.cons (.var 2) .nil))))
 (.seq (.iff (.oo (.bi .eq (.var 3) (.glb "FRIEND" (.str "friend"))) (.an (.bi .ne (.var 3) (.glb "BLOCKED" (.str "blocked"))) (.bi .eq (.var 1) (.lst .nil))))
 (.seq (.ret (.glb "ALWAYS" (.str "always")))
 .nil)
 .nil)
 (.seq (.ret (.ite (.oo (.bi .eq (.var 3) (.glb "BLOCKED" (.str "blocked"))) (.an (.bi .eq (.un .len (.var 1)) (.glb "WEEK" (.int 168))) (.bi .eq (.bi .idx (.var 0) (.cst (.int 3))) (.cst (.int 0))))) (.glb "NEVER" (.str "never")) (.glb "SOMETIMES" (.str "sometimes"))))
 .nil)))
def f_find_effect : List PyData → R PyData := run 3 4 b_find_effect
def N_rings_alone : List Str := ["effect", "hours", "hour"]
def b_rings_alone : S :=
 (.seq (.ret (.oo (.bi .eq (.var 0) (.glb "ALWAYS" (.str "always"))) (.an (.bi .eq (.var 0) (.glb "SOMETIMES" (.str "sometimes"))) (.bi .nin (.var 2) (.var 1)))))
 .nil)
def f_rings_alone : List PyData → R PyData := run 3 3 b_rings_alone
def N_all_effects : List Str := ["settings", "hours", "caller"]
def b_all_effects : S :=
 (.seq (.ret (.comp (.seq (.glb "CALLERS" (.str "abcdef"))) (.nm 2) (.fn "find_effect" f_find_effect (.cons (.var 0) (.cons (.var 1) (.cons (.var 2) .nil)))) [("caller", 2)]))
 .nil)
def f_all_effects : List PyData → R PyData := run 2 3 b_all_effects
def N_single_parting : List Str := ["one", "other", "left", "right", "pairs", "hour", "caller", "first", "second"]
def b_single_parting : S :=
 (.seq (.par [2, 3] (.cons (.fn "find_hours" f_find_hours (.cons (.bi .idx (.var 0) (.cst (.int 0))) .nil)) (.cons (.fn "find_hours" f_find_hours (.cons (.bi .idx (.var 1) (.cst (.int 0))) .nil)) .nil)))
 (.seq (.asg (.nm 4) (.lstRng (.zip3 (.glb "CALLERS" (.str "abcdef")) (.fn "all_effects" f_all_effects (.cons (.var 0) (.cons (.var 2) .nil))) (.fn "all_effects" f_all_effects (.cons (.var 1) (.cons (.var 3) .nil))))))
 (.seq (.forr (.rng1 (.glb "WEEK" (.int 168))) (.nm 5)
 (.seq (.forr (.seq (.var 4)) (.tp [(.nm 6), (.nm 7), (.nm 8)])
 (.seq (.iff (.bi .ne (.fn "rings_alone" f_rings_alone (.cons (.var 7) (.cons (.var 2) (.cons (.var 5) .nil)))) (.fn "rings_alone" f_rings_alone (.cons (.var 8) (.cons (.var 3) (.cons (.var 5) .nil)))))
 (.seq (.ret (.tup (.cons (.tup (.cons (.bi .mul (.var 5) (.glb "HOUR" (.int 60))) (.cons (.var 6) .nil))) .nil)))
 .nil)
 .nil)
 .nil))
 .nil))
 (.seq (.ret (.cst .none))
 .nil))))
def f_single_parting : List PyData → R PyData := run 2 9 b_single_parting
def N_find_limit : List Str := ["settings", "effect"]
def b_find_limit : S :=
 (.seq (.ret (.ite (.bi .eq (.var 1) (.glb "NEVER" (.str "never"))) (.cst (.int 0)) (.bi .idx (.var 0) (.cst (.int 3)))))
 .nil)
def f_find_limit : List PyData → R PyData := run 2 2 b_find_limit
def N_double_parting : List Str := ["one", "other", "left", "right", "found", "caller", "first", "second", "limits", "start", "before"]
def b_double_parting : S :=
 (.seq (.par [2, 3] (.cons (.fn "find_hours" f_find_hours (.cons (.bi .idx (.var 0) (.cst (.int 0))) .nil)) (.cons (.fn "find_hours" f_find_hours (.cons (.bi .idx (.var 1) (.cst (.int 0))) .nil)) .nil)))
 (.seq (.own 4 .nil)
 (.seq (.forr (.seq (.glb "CALLERS" (.str "abcdef"))) (.nm 5)
 (.seq (.par [6, 7] (.cons (.fn "find_effect" f_find_effect (.cons (.var 0) (.cons (.var 2) (.cons (.var 5) .nil)))) (.cons (.fn "find_effect" f_find_effect (.cons (.var 1) (.cons (.var 3) (.cons (.var 5) .nil)))) .nil)))
 (.seq (.asg (.nm 8) (.un .srt (.lst (.cons (.fn "find_limit" f_find_limit (.cons (.var 0) (.cons (.var 6) .nil))) (.cons (.fn "find_limit" f_find_limit (.cons (.var 1) (.cons (.var 7) .nil))) .nil)))))
 (.seq (.iff (.an (.bi .nin (.glb "ALWAYS" (.str "always")) (.tup (.cons (.var 6) (.cons (.var 7) .nil)))) (.bi .lt (.bi .idx (.var 8) (.cst (.int 0))) (.bi .idx (.var 8) (.cst (.int 1)))))
 (.seq (.asg (.nm 9) (.bi .mul (.bi .idx (.ite (.bi .eq (.var 6) (.glb "SOMETIMES" (.str "sometimes"))) (.var 2) (.var 3)) (.cst (.int 0))) (.glb "HOUR" (.int 60))))
 (.seq (.asg (.nm 10) (.bi .max2 (.cst (.int 0)) (.bi .sub (.var 9) (.bi .idx (.var 8) (.cst (.int 1))))))
 (.seq (.app 4 (.tup (.cons (.tup (.cons (.var 10) (.cons (.var 5) .nil))) (.cons (.tup (.cons (.bi .max2 (.var 9) (.bi .add (.bi .add (.var 10) (.bi .idx (.var 8) (.cst (.int 0)))) (.cst (.int 1)))) (.cons (.var 5) .nil))) .nil))))
 .nil)))
 .nil)
 .nil))))
 (.seq (.frz 4)
 (.seq (.ret (.ite (.bi .ne (.var 4) (.lst .nil)) (.un .min1 (.var 4)) (.cst .none)))
 .nil)))))
def f_double_parting : List PyData → R PyData := run 2 11 b_double_parting
def N_find_parting : List Str := ["one", "other", "found"]
def b_find_parting : S :=
 (.seq (.asg (.nm 2) (.fn "single_parting" f_single_parting (.cons (.var 0) (.cons (.var 1) .nil))))
 (.seq (.ret (.ite (.bi .isnt (.var 2) (.cst .none)) (.var 2) (.fn "double_parting" f_double_parting (.cons (.var 0) (.cons (.var 1) .nil)))))
 .nil))
def f_find_parting : List PyData → R PyData := run 2 3 b_find_parting
def N_always_agree : List Str := ["one", "other"]
def b_always_agree : S :=
 (.seq (.evl (.fn "check_two" f_check_two (.cons (.var 0) (.cons (.var 1) .nil))))
 (.seq (.ret (.bi .is (.fn "find_parting" f_find_parting (.cons (.var 0) (.cons (.var 1) .nil))) (.cst .none)))
 .nil))
def f_always_agree : List PyData → R PyData := run 2 2 b_always_agree
def N_parting_calls : List Str := ["one", "other"]
def b_parting_calls : S :=
 (.seq (.evl (.fn "check_two" f_check_two (.cons (.var 0) (.cons (.var 1) .nil))))
 (.seq (.ret (.fn "find_parting" f_find_parting (.cons (.var 0) (.cons (.var 1) .nil))))
 .nil))
def f_parting_calls : List PyData → R PyData := run 2 2 b_parting_calls
def N_rings_more : List Str := ["one", "other", "left", "right", "caller", "effects", "hour"]
def b_rings_more : S :=
 (.seq (.evl (.fn "check_two" f_check_two (.cons (.var 0) (.cons (.var 1) .nil))))
 (.seq (.par [2, 3] (.cons (.fn "find_hours" f_find_hours (.cons (.bi .idx (.var 0) (.cst (.int 0))) .nil)) (.cons (.fn "find_hours" f_find_hours (.cons (.bi .idx (.var 1) (.cst (.int 0))) .nil)) .nil)))
 (.seq (.forr (.seq (.glb "CALLERS" (.str "abcdef"))) (.nm 4)
 (.seq (.asg (.nm 5) (.tup (.cons (.fn "find_effect" f_find_effect (.cons (.var 0) (.cons (.var 2) (.cons (.var 4) .nil)))) (.cons (.fn "find_effect" f_find_effect (.cons (.var 1) (.cons (.var 3) (.cons (.var 4) .nil)))) .nil))))
 (.seq (.iff (.an (.bi .ne (.bi .idx (.var 5) (.cst (.int 0))) (.glb "ALWAYS" (.str "always"))) (.bi .ne (.bi .idx (.var 5) (.cst (.int 1))) (.glb "NEVER" (.str "never"))))
 (.seq (.iff (.oo (.bi .eq (.bi .idx (.var 5) (.cst (.int 0))) (.glb "NEVER" (.str "never"))) (.oo (.bi .eq (.bi .idx (.var 5) (.cst (.int 1))) (.glb "ALWAYS" (.str "always"))) (.bi .lt (.bi .idx (.var 0) (.cst (.int 3))) (.bi .idx (.var 1) (.cst (.int 3))))))
 (.seq (.ret (.cst (.bool false)))
 .nil)
 .nil)
 (.seq (.iff (.un .any (.comp (.seq (.var 2)) (.nm 6) (.bi .nin (.var 6) (.var 3)) [("hour", 6)]))
 (.seq (.ret (.cst (.bool false)))
 .nil)
 .nil)
 .nil))
 .nil)
 .nil)))
 (.seq (.ret (.cst (.bool true)))
 .nil))))
def f_rings_more : List PyData → R PyData := run 2 7 b_rings_more
def N_check_three : List Str := ["settings", "caller", "minute"]
def b_check_three : S :=
 (.seq (.evl (.fn "check_settings" f_check_settings (.cons (.var 0) .nil)))
 (.seq (.evl (.fn "check_caller" f_check_caller (.cons (.var 1) .nil)))
 (.seq (.evl (.fn "check_minute" f_check_minute (.cons (.var 2) .nil)))
 .nil)))
def f_check_three : List PyData → R PyData := run 3 3 b_check_three
def N_find_fewest : List Str := ["settings", "caller", "minute", "kind"]
def b_find_fewest : S :=
 (.seq (.asg (.nm 3) (.fn "find_kind" f_find_kind (.cons (.var 0) (.cons (.var 1) .nil))))
 (.seq (.iff (.bi .eq (.var 3) (.glb "BLOCKED" (.str "blocked")))
 (.seq (.ret (.cst .none))
 .nil)
 .nil)
 (.seq (.iff (.oo (.bi .ne (.var 3) (.glb "OTHER" (.str "other"))) (.bi .nin (.bi .fdiv (.var 2) (.glb "HOUR" (.int 60))) (.fn "find_hours" f_find_hours (.cons (.bi .idx (.var 0) (.cst (.int 0))) .nil))))
 (.seq (.ret (.cst (.int 1)))
 .nil)
 .nil)
 (.seq (.ret (.ite (.an (.bi .gt (.bi .idx (.var 0) (.cst (.int 3))) (.cst (.int 0))) (.bi .gt (.var 2) (.cst (.int 0)))) (.cst (.int 2)) (.cst .none)))
 .nil))))
def f_find_fewest : List PyData → R PyData := run 3 4 b_find_fewest
def N_fewest_calls : List Str := ["settings", "caller", "minute"]
def b_fewest_calls : S :=
 (.seq (.evl (.fn "check_three" f_check_three (.cons (.var 0) (.cons (.var 1) (.cons (.var 2) .nil)))))
 (.seq (.ret (.fn "find_fewest" f_find_fewest (.cons (.var 0) (.cons (.var 1) (.cons (.var 2) .nil)))))
 .nil))
def f_fewest_calls : List PyData → R PyData := run 3 3 b_fewest_calls
def N_call_before : List Str := ["settings", "caller", "minute"]
def b_call_before : S :=
 (.seq (.evl (.fn "check_three" f_check_three (.cons (.var 0) (.cons (.var 1) (.cons (.var 2) .nil)))))
 (.seq (.ret (.ite (.bi .eq (.fn "find_fewest" f_find_fewest (.cons (.var 0) (.cons (.var 1) (.cons (.var 2) .nil)))) (.cst (.int 2))) (.bi .max2 (.cst (.int 0)) (.bi .sub (.var 2) (.bi .idx (.var 0) (.cst (.int 3))))) (.cst .none)))
 .nil))
def f_call_before : List PyData → R PyData := run 3 3 b_call_before
def N_wait_for : List Str := ["settings", "minute", "known", "many", "hour"]
def b_wait_for : S :=
 (.seq (.evl (.fn "check_settings" f_check_settings (.cons (.var 0) .nil)))
 (.seq (.evl (.fn "check_minute" f_check_minute (.cons (.var 1) .nil)))
 (.seq (.asg (.nm 2) (.fn "find_hours" f_find_hours (.cons (.bi .idx (.var 0) (.cst (.int 0))) .nil)))
 (.seq (.iff (.bi .nin (.bi .fdiv (.var 1) (.glb "HOUR" (.int 60))) (.var 2))
 (.seq (.ret (.cst (.int 0)))
 .nil)
 .nil)
 (.seq (.forr (.rng2 (.cst (.int 1)) (.glb "WEEK" (.int 168))) (.nm 3)
 (.seq (.asg (.nm 4) (.bi .add (.bi .fdiv (.var 1) (.glb "HOUR" (.int 60))) (.var 3)))
 (.seq (.iff (.bi .nin (.bi .mod (.var 4) (.glb "WEEK" (.int 168))) (.var 2))
 (.seq (.ret (.bi .sub (.bi .mul (.var 4) (.glb "HOUR" (.int 60))) (.var 1)))
 .nil)
 .nil)
 .nil)))
 (.seq (.ret (.cst .none))
 .nil))))))
def f_wait_for : List PyData → R PyData := run 2 5 b_wait_for
def N_never_alone : List Str := ["settings", "full", "kinds", "caller", "kind"]
def b_never_alone : S :=
 (.seq (.evl (.fn "check_settings" f_check_settings (.cons (.var 0) .nil)))
 (.seq (.asg (.nm 1) (.bi .eq (.un .len (.fn "find_hours" f_find_hours (.cons (.bi .idx (.var 0) (.cst (.int 0))) .nil))) (.glb "WEEK" (.int 168))))
 (.seq (.asg (.nm 2) (.comp (.seq (.glb "CALLERS" (.str "abcdef"))) (.nm 3) (.tup (.cons (.var 3) (.cons (.fn "find_kind" f_find_kind (.cons (.var 0) (.cons (.var 3) .nil))) .nil))) [("caller", 3)]))
 (.seq (.ret (.bi .join (.cst (.str "")) (.compT (.seq (.var 2)) (.tp [(.nm 3), (.nm 4)]) (.oo (.bi .eq (.var 4) (.glb "BLOCKED" (.str "blocked"))) (.an (.var 1) (.bi .eq (.var 4) (.glb "OTHER" (.str "other"))))) (.var 3) [("caller", 3), ("kind", 4)])))
 .nil))))
def f_never_alone : List PyData → R PyData := run 1 5 b_never_alone
def N_fewest_friends : List Str := ["settings", "calls", "number"]
def b_fewest_friends : S :=
 (.seq (.evl (.fn "check_calls" f_check_calls (.cons (.var 0) (.cons (.var 1) .nil))))
 (.seq (.ret (.fn "add" f_add (.cons (.cst (.str "")) (.cons (.bi .join (.cst (.str "")) (.comp (.seq (.fn "find_silent" f_find_silent (.cons (.var 0) (.cons (.var 1) .nil)))) (.nm 2) (.bi .idx (.bi .idx (.var 1) (.var 2)) (.cst (.int 1))) [("number", 2)])) .nil))))
 .nil))
def f_fewest_friends : List PyData → R PyData := run 2 3 b_fewest_friends
def N_least_again : List Str := ["settings", "calls", "many", "again"]
def b_least_again : S :=
 (.seq (.evl (.fn "check_calls" f_check_calls (.cons (.var 0) (.cons (.var 1) .nil))))
 (.seq (.iff (.nt (.fn "is_int" f_is_int (.cons (.var 2) (.cons (.cst (.int 0)) (.cons (.glb "MAX_CALLS" (.int 12)) .nil)))))
 (.seq (.rai "InvalidMany")
 .nil)
 .nil)
 (.seq (.forr (.rng1 (.bi .add (.glb "MAX_AGAIN" (.int 59)) (.cst (.int 1)))) (.nm 3)
 (.seq (.iff (.bi .le (.un .len (.fn "find_silent" f_find_silent (.cons (.bi .add (.bi .sto (.var 0) (.cst (.int 3))) (.tup (.cons (.var 3) .nil))) (.cons (.var 1) .nil)))) (.var 2))
 (.seq (.ret (.var 3))
 .nil)
 .nil)
 .nil))
 (.seq (.ret (.cst .none))
 .nil))))
def f_least_again : List PyData → R PyData := run 3 4 b_least_again
def N__law_pick : List Str := ["script", "k", "many", "cell", "rest", "again", "drawn"]
def b__law_pick : S :=
 (.seq (.asg (.nm 3) (.ite (.bi .ne (.var 0) (.lst .nil)) (.bi .idx (.var 0) (.bi .mod (.var 1) (.un .len (.var 0)))) (.cst (.int 0))))
 (.seq (.par [4, 5] (.cons (.bi .fdiv (.var 3) (.bi .pow (.cst (.int 10)) (.cst (.int 18)))) (.cons (.bi .fdiv (.var 1) (.bi .max2 (.un .len (.var 0)) (.cst (.int 1)))) .nil)))
 (.seq (.whl 1000 (.an (.bi .gt (.var 4) (.cst (.int 0))) (.bi .gt (.var 5) (.cst (.int 0))))
 (.seq (.par [4, 5] (.cons (.bi .fdiv (.var 4) (.cst (.int 840))) (.cons (.bi .sub (.var 5) (.cst (.int 1))) .nil)))
 .nil))
 (.seq (.iff (.bi .gt (.var 4) (.cst (.int 0)))
 (.seq (.ret (.bi .mod (.bi .mod (.var 4) (.cst (.int 840))) (.var 2)))
 .nil)
 .nil)
 (.seq (.asg (.nm 6) (.bi .mod (.bi .mul (.bi .add (.bi .mul (.var 3) (.cst (.int 31))) (.bi .mul (.cst (.int 6151)) (.bi .add (.var 1) (.cst (.int 1))))) (.cst (.int 40692))) (.cst (.int 2147483399))))
 (.seq (.ret (.bi .mod (.bi .mod (.bi .add (.bi .mul (.var 6) (.var 6)) (.bi .fdiv (.var 6) (.cst (.int 31)))) (.cst (.int 2147483629))) (.var 2)))
 .nil))))))
def f__law_pick : List PyData → R PyData := run 3 7 b__law_pick
def N__law_form : List Str := ["script", "at", "spans", "k", "days", "sign", "begin", "end", "kinds", "near", "shut"]
def b__law_form : S :=
 (.seq (.own 2 .nil)
 (.seq (.forr (.rng1 (.fn "_law_pick" f__law_pick (.cons (.var 0) (.cons (.var 1) (.cons (.cst (.int 4)) .nil))))) (.nm 3)
 (.seq (.asg (.nm 4) (.bi .join (.cst (.str "")) (.compT (.seq (.cst (.str "0123456"))) (.nm 5) (.bi .gt (.fn "_law_pick" f__law_pick (.cons (.var 0) (.cons (.bi .add (.bi .add (.bi .add (.var 1) (.cst (.int 1))) (.bi .mul (.cst (.int 10)) (.var 3))) (.un .toInt (.var 5))) (.cons (.cst (.int 3)) .nil)))) (.cst (.int 0))) (.var 5) [("sign", 5)])))
 (.seq (.par [6, 7] (.cons (.fn "_law_pick" f__law_pick (.cons (.var 0) (.cons (.bi .add (.bi .add (.var 1) (.cst (.int 8))) (.bi .mul (.cst (.int 10)) (.var 3))) (.cons (.cst (.int 24)) .nil)))) (.cons (.fn "_law_pick" f__law_pick (.cons (.var 0) (.cons (.bi .add (.bi .add (.var 1) (.cst (.int 9))) (.bi .mul (.cst (.int 10)) (.var 3))) (.cons (.cst (.int 24)) .nil)))) .nil)))
 (.seq (.iff (.bi .eq (.fn "_law_pick" f__law_pick (.cons (.var 0) (.cons (.bi .add (.bi .add (.var 1) (.cst (.int 10))) (.bi .mul (.cst (.int 10)) (.var 3))) (.cons (.cst (.int 5)) .nil)))) (.cst (.int 0)))
 (.seq (.par [4, 6] (.cons (.cst (.str "0123456")) (.cons (.var 7) .nil)))
 .nil)
 .nil)
 (.seq (.app 2 (.tup (.cons (.ite (.bi .ne (.var 4) (.cst (.str ""))) (.var 4) (.cst (.str "3"))) (.cons (.var 6) (.cons (.var 7) .nil)))))
 .nil)))))
 (.seq (.frz 2)
 (.seq (.asg (.nm 2) (.un .toTuple (.un .sset (.var 2))))
 (.seq (.asg (.nm 8) (.comp (.rng1 (.cst (.int 6))) (.nm 3) (.fn "_law_pick" f__law_pick (.cons (.var 0) (.cons (.bi .add (.bi .add (.var 1) (.cst (.int 35))) (.var 3)) (.cons (.cst (.int 4)) .nil)))) [("k", 3)]))
 (.seq (.asg (.nm 9) (.bi .join (.cst (.str "")) (.compT (.rng1 (.cst (.int 6))) (.nm 3) (.bi .eq (.bi .idx (.var 8) (.var 3)) (.cst (.int 0))) (.bi .idx (.cst (.str "abcdef")) (.var 3)) [("k", 3)])))
 (.seq (.asg (.nm 10) (.bi .join (.cst (.str "")) (.compT (.rng1 (.cst (.int 6))) (.nm 3) (.bi .eq (.bi .idx (.var 8) (.var 3)) (.cst (.int 1))) (.bi .idx (.cst (.str "abcdef")) (.var 3)) [("k", 3)])))
 (.seq (.frz 2)
 (.seq (.ret (.tup (.cons (.var 2) (.cons (.var 9) (.cons (.var 10) (.cons (.bi .idx (.tup (.cons (.cst (.int 0)) (.cons (.cst (.int 5)) (.cons (.cst (.int 15)) (.cons (.cst (.int 59)) .nil))))) (.fn "_law_pick" f__law_pick (.cons (.var 0) (.cons (.bi .add (.var 1) (.cst (.int 41))) (.cons (.cst (.int 4)) .nil))))) .nil))))))
 .nil)))))))))
def f__law_form : List PyData → R PyData := run 2 11 b__law_form
def N__law_hush : List Str := ["form", "found", "days", "begin", "end", "day", "hour"]
def b__law_hush : S :=
 (.seq (.own 1 .nil)
 (.seq (.forr (.seq (.bi .idx (.var 0) (.cst (.int 0)))) (.tp [(.nm 2), (.nm 3), (.nm 4)])
 (.seq (.forr (.seq (.var 2)) (.nm 5)
 (.seq (.asg (.nm 6) (.bi .add (.bi .mul (.cst (.int 24)) (.un .toInt (.var 5))) (.var 3)))
 (.seq (.app 1 (.bi .mod (.var 6) (.cst (.int 168))))
 (.seq (.asg (.nm 6) (.bi .add (.var 6) (.cst (.int 1))))
 (.seq (.whl 1000 (.bi .ne (.bi .mod (.var 6) (.cst (.int 24))) (.var 4))
 (.seq (.app 1 (.bi .mod (.var 6) (.cst (.int 168))))
 (.seq (.asg (.nm 6) (.bi .add (.var 6) (.cst (.int 1))))
 .nil)))
 .nil)))))
 .nil))
 (.seq (.frz 1)
 (.seq (.ret (.un .sset (.var 1)))
 .nil))))
def f__law_hush : List PyData → R PyData := run 1 7 b__law_hush
def N__law_rings : List Str := ["form", "row", "shift", "found", "hush", "k", "minute", "caller", "near", "before", "other", "told"]
def b__law_rings : S :=
 (.seq (.par [3, 4] (.cons (.lst .nil) (.cons (.fn "_law_hush" f__law_hush (.cons (.var 0) .nil)) .nil)))
 (.seq (.forr (.rng1 (.un .len (.var 1))) (.nm 5)
 (.seq (.asg (.tp [(.nm 6), (.nm 7)]) (.bi .idx (.var 1) (.var 5)))
 (.seq (.asg (.nm 8) (.compT (.seq (.bi .sto (.var 1) (.var 5))) (.tp [(.nm 9), (.nm 10)]) (.an (.bi .eq (.var 10) (.var 7)) (.bi .ge (.bi .add (.var 9) (.bi .idx (.var 0) (.cst (.int 3)))) (.var 6))) (.var 9) [("before", 9), ("other", 10)]))
 (.seq (.asg (.nm 11) (.oo (.bi .nin (.bi .fdiv (.bi .mod (.bi .add (.var 6) (.var 2)) (.cst (.int 10080))) (.cst (.int 60))) (.var 4)) (.bi .ne (.var 8) (.lst .nil))))
 (.seq (.iff (.oo (.bi .inn (.var 7) (.bi .idx (.var 0) (.cst (.int 1)))) (.an (.var 11) (.bi .nin (.var 7) (.bi .idx (.var 0) (.cst (.int 2))))))
 (.seq (.app 3 (.var 5))
 .nil)
 .nil)
 .nil)))))
 (.seq (.frz 3)
 (.seq (.ret (.var 3))
 .nil))))
def f__law_rings : List PyData → R PyData := run 3 12 b__law_rings
def N__law_row : List Str := ["script", "at", "form", "most", "hush", "minute", "found", "k", "one"]
def b__law_row : S :=
 (.seq (.asg (.nm 4) (.bi .add (.fn "_law_hush" f__law_hush (.cons (.var 2) .nil)) (.lst (.cons (.cst (.int 10)) (.cons (.cst (.int 100)) .nil)))))
 (.seq (.asg (.nm 5) (.bi .max2 (.cst (.int 0)) (.bi .sub (.bi .mul (.cst (.int 60)) (.bi .idx (.var 4) (.fn "_law_pick" f__law_pick (.cons (.var 0) (.cons (.var 1) (.cons (.un .len (.var 4)) .nil)))))) (.fn "_law_pick" f__law_pick (.cons (.var 0) (.cons (.bi .add (.var 1) (.cst (.int 1))) (.cons (.cst (.int 70)) .nil)))))))
 (.seq (.own 6 .nil)
 (.seq (.forr (.rng1 (.fn "_law_pick" f__law_pick (.cons (.var 0) (.cons (.bi .add (.var 1) (.cst (.int 2))) (.cons (.bi .add (.var 3) (.cst (.int 1))) .nil))))) (.nm 7)
 (.seq (.app 6 (.tup (.cons (.var 5) (.cons (.bi .idx (.cst (.str "abcdefab")) (.fn "_law_pick" f__law_pick (.cons (.var 0) (.cons (.bi .add (.bi .add (.var 1) (.cst (.int 3))) (.bi .mul (.cst (.int 2)) (.var 7))) (.cons (.cst (.int 8)) .nil))))) .nil))))
 (.seq (.asg (.nm 5) (.bi .add (.var 5) (.bi .idx (.tup (.cons (.cst (.int 1)) (.cons (.cst (.int 4)) (.cons (.cst (.int 5)) (.cons (.cst (.int 6)) (.cons (.cst (.int 15)) (.cons (.cst (.int 16)) (.cons (.cst (.int 59)) (.cons (.cst (.int 60)) (.cons (.cst (.int 200)) .nil)))))))))) (.fn "_law_pick" f__law_pick (.cons (.var 0) (.cons (.bi .add (.bi .add (.var 1) (.cst (.int 4))) (.bi .mul (.cst (.int 2)) (.var 7))) (.cons (.cst (.int 9)) .nil)))))))
 .nil)))
 (.seq (.frz 6)
 (.seq (.ret (.un .toTuple (.compT (.seq (.var 6)) (.nm 8) (.bi .lt (.bi .idx (.var 8) (.cst (.int 0))) (.cst (.int 10080))) (.var 8) [("one", 8)])))
 .nil))))))
def f__law_row : List PyData → R PyData := run 4 9 b__law_row
def N_check_shift : List Str := ["value"]
def b_check_shift : S :=
 (.seq (.iff (.nt (.fn "is_int" f_is_int (.cons (.var 0) (.cons (.bi .sub (.cst (.int 0)) (.glb "MAX_SHIFT" (.int 720))) (.cons (.glb "MAX_SHIFT" (.int 720)) .nil)))))
 (.seq (.rai "InvalidShift")
 .nil)
 .nil)
 .nil)
def f_check_shift : List PyData → R PyData := run 1 1 b_check_shift
def N__law_class : List Str := ["error", "kinds", "words"]
def b__law_class : S :=
 (.seq (.own 1 (.cons (.un (.isi "InvalidSettings") (.var 0)) (.cons (.un (.isi "InvalidMinute") (.var 0)) .nil)))
 (.seq (.ext 1 (.lst (.cons (.un (.isi "InvalidCaller") (.var 0)) (.cons (.un (.isi "InvalidCalls") (.var 0)) .nil))))
 (.seq (.ext 1 (.lst (.cons (.un (.isi "InvalidAlarm") (.var 0)) (.cons (.un (.isi "InvalidAlarms") (.var 0)) .nil))))
 (.seq (.ext 1 (.lst (.cons (.un (.isi "InvalidShift") (.var 0)) (.cons (.un (.isi "TooMany") (.var 0)) .nil))))
 (.seq (.ext 1 (.lst (.cons (.un (.isi "NothingToUndo") (.var 0)) (.cons (.un (.isi "ParseError") (.var 0)) .nil))))
 (.seq (.frz 1)
 (.seq (.iff (.oo (.bi .ne (.bi .cnt (.var 1) (.cst (.bool true))) (.cst (.int 1))) (.nt (.un (.isi "ValueError") (.var 0))))
 (.seq (.ret (.cst (.str "wrong")))
 .nil)
 .nil)
 (.seq (.own 2 (.cons (.cst (.str "InvalidSettings")) (.cons (.cst (.str "InvalidMinute")) (.cons (.cst (.str "InvalidCaller")) (.cons (.cst (.str "InvalidCalls")) (.cons (.cst (.str "InvalidAlarm")) .nil))))))
 (.seq (.ext 2 (.lst (.cons (.cst (.str "InvalidAlarms")) (.cons (.cst (.str "InvalidShift")) (.cons (.cst (.str "TooMany")) (.cons (.cst (.str "NothingToUndo")) (.cons (.cst (.str "ParseError")) .nil)))))))
 (.seq (.frz 1)
 (.seq (.frz 2)
 (.seq (.ret (.bi .idx (.var 2) (.bi .indx (.var 1) (.cst (.bool true)))))
 .nil))))))))))))
def f__law_class : List PyData → R PyData := run 1 3 b__law_class
def N_settings_text : List Str := ["settings", "quiet", "friends", "blocked", "again", "times", "days", "begin", "end"]
def b_settings_text : S :=
 (.seq (.asg (.tp [(.nm 1), (.nm 2), (.nm 3), (.nm 4)]) (.var 0))
 (.seq (.asg (.nm 5) (.bi .join (.glb "BETWEEN" (.str " ")) (.comp (.seq (.var 1)) (.tp [(.nm 6), (.nm 7), (.nm 8)]) (.bi .add (.bi .add (.bi .add (.bi .add (.var 6) (.glb "AT" (.str "@"))) (.un .toStr (.var 7))) (.glb "TO" (.str "-"))) (.un .toStr (.var 8))) [("days", 6), ("begin", 7), ("end", 8)])))
 (.seq (.ret (.bi .join (.glb "PARTS" (.str ";")) (.lst (.cons (.var 5) (.cons (.var 2) (.cons (.var 3) (.cons (.un .toStr (.var 4)) .nil)))))))
 .nil)))
def f_settings_text : List PyData → R PyData := run 1 9 b_settings_text
def N_format_settings : List Str := ["settings"]
def b_format_settings : S :=
 (.seq (.evl (.fn "check_settings" f_check_settings (.cons (.var 0) .nil)))
 (.seq (.ret (.fn "settings_text" f_settings_text (.cons (.var 0) .nil)))
 .nil))
def f_format_settings : List PyData → R PyData := run 1 1 b_format_settings
def N_is_begun : List Str := ["time", "hour"]
def b_is_begun : S :=
 (.seq (.ret (.an (.bi .inn (.un .toStr (.bi .fdiv (.var 1) (.glb "DAY" (.int 24)))) (.bi .idx (.var 0) (.cst (.int 0)))) (.bi .eq (.bi .mod (.var 1) (.glb "DAY" (.int 24))) (.bi .idx (.var 0) (.cst (.int 1))))))
 .nil)
def f_is_begun : List PyData → R PyData := run 2 2 b_is_begun
def N_contains : List Str := ["time", "hour", "back", "here"]
def b_contains : S :=
 (.seq (.forr (.rng1 (.glb "DAY" (.int 24))) (.nm 2)
 (.seq (.asg (.nm 3) (.bi .mod (.bi .sub (.var 1) (.var 2)) (.glb "WEEK" (.int 168))))
 (.seq (.iff (.fn "is_begun" f_is_begun (.cons (.var 0) (.cons (.var 3) .nil)))
 (.seq (.ret (.cst (.bool true)))
 .nil)
 .nil)
 (.seq (.iff (.bi .eq (.bi .mod (.var 3) (.glb "DAY" (.int 24))) (.bi .idx (.var 0) (.cst (.int 2))))
 (.seq (.ret (.cst (.bool false)))
 .nil)
 .nil)
 .nil))))
 (.seq (.ret (.cst (.bool false)))
 .nil))
def f_contains : List PyData → R PyData := run 2 4 b_contains
end QL
/-! ### reading the terms -/
namespace QB
open PySem
def fin : R Out → R PyData
  | .ok (.nx _) => .ok .none
  | .ok (.rt d) => .ok d
  | .exc c => .exc c
  | .stuck => .stuck
@[simp] theorem fin_nx (ρ : Env) : fin (.ok (.nx ρ)) = .ok .none := rfl
@[simp] theorem fin_rt (d : PyData) : fin (.ok (.rt d)) = .ok d := rfl
@[simp] theorem fin_exc (c : Str) : fin (.exc c) = .exc c := rfl
@[simp] theorem fin_stuck : fin .stuck = .stuck := rfl
theorem run_is (n N : Nat) (b : S) (ds : List PyData) (h : ds.length = n) : run n N b ds = fin (ex b (ds.map .da ++ List.replicate (N - n) .no)) := by
  unfold run
  rw [show decide (ds.length = n) = true from decide_eq_true h]
  rw [R.when_true]
  cases ex b (ds.map .da ++ List.replicate (N - n) .no) with
  | ok o => cases o <;> rfl
  | exc c => rfl
  | stuck => rfl
@[simp] theorem run_0 (N : Nat) (b : S) : run 0 N b [] = fin (ex b (List.replicate N .no)) := run_is 0 N b [] rfl
@[simp] theorem run_1 (N : Nat) (b : S) (d : PyData) : run 1 N b [d] = fin (ex b (.da d :: List.replicate (N - 1) .no)) := run_is 1 N b [d] rfl
@[simp] theorem run_2 (N : Nat) (b : S) (d e : PyData) : run 2 N b [d, e] = fin (ex b (.da d :: .da e :: List.replicate (N - 2) .no)) := run_is 2 N b [d, e] rfl
@[simp] theorem run_3 (N : Nat) (b : S) (d e f : PyData) : run 3 N b [d, e, f] = fin (ex b (.da d :: .da e :: .da f :: List.replicate (N - 3) .no)) := run_is 3 N b [d, e, f] rfl
@[simp] theorem run_4 (N : Nat) (b : S) (d e f g : PyData) : run 4 N b [d, e, f, g] = fin (ex b (.da d :: .da e :: .da f :: .da g :: List.replicate (N - 4) .no)) := run_is 4 N b [d, e, f, g] rfl
@[simp] theorem run_5 (N : Nat) (b : S) (d e f g h : PyData) : run 5 N b [d, e, f, g, h] = fin (ex b (.da d :: .da e :: .da f :: .da g :: .da h :: List.replicate (N - 5) .no)) := run_is 5 N b [d, e, f, g, h] rfl
@[simp] theorem ev_cst (d : PyData) (ρ : Env) : ev (.cst d) ρ = .ok d := rfl
@[simp] theorem ev_var (i : Nat) (ρ : Env) : ev (.var i) ρ = Sl.get ρ[i]? := rfl
@[simp] theorem ev_glb (x : Str) (d : PyData) (ρ : Env) : ev (.glb x d) ρ = .ok d := rfl
@[simp] theorem ev_un (u : Un) (a : P) (ρ : Env) : ev (.un u a) ρ = (ev a ρ).bind fun d => un1 u d := rfl
@[simp] theorem ev_bi (b : Bi) (a c : P) (ρ : Env) : ev (.bi b a c) ρ = (ev a ρ).bind fun d => R.when (rcv b d) ((ev c ρ).bind fun e => bi2 b d e) := rfl
@[simp] theorem ev_chn (o o' : Bi) (a b c : P) (ρ : Env) : ev (.chn o o' a b c) ρ = (ev a ρ).bind fun d => (ev b ρ).bind fun e => (boolR (bi2 o d e)).bind fun k => cond k ((ev c ρ).bind fun f => bi2 o' e f) (.ok (.bool false)) := rfl
@[simp] theorem ev_nt (a : P) (ρ : Env) : ev (.nt a) ρ = (boolR (ev a ρ)).bind fun k => .ok (.bool (!k)) := rfl
@[simp] theorem ev_an (a b : P) (ρ : Env) : ev (.an a b) ρ = (boolR (ev a ρ)).bind fun k => cond k (ev b ρ) (.ok (.bool false)) := rfl
@[simp] theorem ev_oo (a b : P) (ρ : Env) : ev (.oo a b) ρ = (boolR (ev a ρ)).bind fun k => cond k (.ok (.bool true)) (ev b ρ) := rfl
@[simp] theorem ev_ite (c a b : P) (ρ : Env) : ev (.ite c a b) ρ = (boolR (ev c ρ)).bind fun k => cond k (ev a ρ) (ev b ρ) := rfl
@[simp] theorem ev_tup (as : Ps) (ρ : Env) : ev (.tup as) ρ = (evs as ρ).bind fun ds => .ok (.tuple ds) := rfl
@[simp] theorem ev_lst (as : Ps) (ρ : Env) : ev (.lst as) ρ = (evs as ρ).bind fun ds => .ok (.list ds) := rfl
@[simp] theorem ev_fn (x : Str) (m : List PyData → R PyData) (as : Ps) (ρ : Env) : ev (.fn x m as) ρ = (evs as ρ).bind fun ds => m ds := rfl
@[simp] theorem ev_comp (it : It) (tg : Tg) (elt : P) (own : List (Str × Nat)) (ρ : Env) : ev (.comp it tg elt own) ρ = (evI it ρ).bind fun ds => R.when (lok ds)
      ((compL (fun d => (asgT tg d (wipeS ρ (own.map (·.2)))).bind fun ρ1 => (ev elt ρ1).bind fun x => .ok (some x)) ds).firm.bind fun r => .ok (.list r)) := rfl
@[simp] theorem ev_compT (it : It) (tg : Tg) (t elt : P) (own : List (Str × Nat)) (ρ : Env) : ev (.compT it tg t elt own) ρ = (evI it ρ).bind fun ds => R.when (lok ds)
      ((compL (fun d => (asgT tg d (wipeS ρ (own.map (·.2)))).bind fun ρ1 => (boolR (ev t ρ1)).bind fun k => cond k ((ev elt ρ1).bind fun x => .ok (some x)) (.ok none)) ds).firm.bind fun r => .ok (.list r)) := rfl
@[simp] theorem evs_nil (ρ : Env) : evs .nil ρ = .ok [] := rfl
@[simp] theorem evs_cons (a : P) (as : Ps) (ρ : Env) : evs (.cons a as) ρ = (ev a ρ).bind fun d => (evs as ρ).bind fun ds => .ok (d :: ds) := rfl
@[simp] theorem evI_seq (a : P) (ρ : Env) : evI (.seq a) ρ = (ev a ρ).bind fun d => R.of (seqOf d) fun ds => .ok ds := rfl
@[simp] theorem evI_rng1 (a : P) (ρ : Env) : evI (.rng1 a) ρ = (ev a ρ).bind fun d => match d with
    | .int j => rngI 0 j
    | _ => .stuck := rfl
@[simp] theorem evI_rng2 (a b : P) (ρ : Env) : evI (.rng2 a b) ρ = (ev a ρ).bind fun d => (ev b ρ).bind fun e => match d, e with
    | .int i, .int j => rngI i j
    | _, _ => .stuck := rfl
@[simp] theorem evI_zip2 (a b : P) (ρ : Env) : evI (.zip2 a b) ρ = (ev a ρ).bind fun d => (ev b ρ).bind fun e => R.of (seqOf d) fun ds => R.of (seqOf e) fun es => .ok (List.zipWith (fun x y => .tuple [x, y]) ds es) := rfl
@[simp] theorem evI_enm (a : P) (ρ : Env) : evI (.enm a) ρ = (ev a ρ).bind fun d => R.of (seqOf d) fun ds => .ok (List.zipWith (fun i x => .tuple [.int ((i : Nat) : Int), x]) (List.range ds.length) ds) := rfl
@[simp] theorem ev1_lst (as : Ps) (ρ : Env) : ev1 (.lst as) ρ = (evs as ρ).bind fun ds => .ok (.ow ds) := rfl
@[simp] theorem ev1_cst (d : PyData) (ρ : Env) : ev1 (.cst d) ρ = .ok (.da d) := rfl
@[simp] theorem ev1_var (i : Nat) (ρ : Env) : ev1 (.var i) ρ = (ev (.var i) ρ).bind fun d => .ok (.da d) := rfl
@[simp] theorem ev1_glb (x : Str) (d : PyData) (ρ : Env) : ev1 (.glb x d) ρ = .ok (.da d) := rfl
@[simp] theorem ev1_un (u : Un) (a : P) (ρ : Env) : ev1 (.un u a) ρ = (ev (.un u a) ρ).bind fun d => .ok (.da d) := rfl
@[simp] theorem ev1_bi (b : Bi) (a c : P) (ρ : Env) : ev1 (.bi b a c) ρ = (ev (.bi b a c) ρ).bind fun d => .ok (.da d) := rfl
@[simp] theorem ev1_ite (c a b : P) (ρ : Env) : ev1 (.ite c a b) ρ = (ev (.ite c a b) ρ).bind fun d => .ok (.da d) := rfl
@[simp] theorem ev1_tup (as : Ps) (ρ : Env) : ev1 (.tup as) ρ = (ev (.tup as) ρ).bind fun d => .ok (.da d) := rfl
@[simp] theorem ev1_fn (x : Str) (m : List PyData → R PyData) (as : Ps) (ρ : Env) : ev1 (.fn x m as) ρ = (ev (.fn x m as) ρ).bind fun d => .ok (.da d) := rfl
@[simp] theorem ev1_comp (it : It) (tg : Tg) (elt : P) (own : List (Str × Nat)) (ρ : Env) : ev1 (.comp it tg elt own) ρ = (ev (.comp it tg elt own) ρ).bind fun d => .ok (.da d) := rfl
@[simp] theorem ev1_compT (it : It) (tg : Tg) (t elt : P) (own : List (Str × Nat)) (ρ : Env) : ev1 (.compT it tg t elt own) ρ = (ev (.compT it tg t elt own) ρ).bind fun d => .ok (.da d) := rfl
@[simp] theorem evP_nil (ρ : Env) : evP .nil ρ = .ok [] := rfl
@[simp] theorem evP_cons (a : P) (as : Ps) (ρ : Env) : evP (.cons a as) ρ = (ev1 a ρ).bind fun d => (evP as ρ).bind fun ds => .ok (d :: ds) := rfl
@[simp] theorem ex_pass (ρ : Env) : ex .pass ρ = .ok (.nx ρ) := rfl
@[simp] theorem ex_nil (ρ : Env) : ex .nil ρ = .ok (.nx ρ) := rfl
@[simp] theorem ex_own (i : Nat) (as : Ps) (ρ : Env) : ex (.own i as) ρ = (evs as ρ).bind fun ds => .ok (.nx (ρ.set i (.ow ds))) := rfl
@[simp] theorem ex_ownA (i : Nat) (a b : P) (ρ : Env) : ex (.ownA i a b) ρ = (ev a ρ).bind fun d => (ev b ρ).bind fun e => match d, e with
    | .list ds, .list es => R.when (decide (ds.length + es.length ≤ lim)) (.ok (.nx (ρ.set i (.ow (ds ++ es)))))
    | _, _ => .stuck := rfl
@[simp] theorem ex_ownC (i : Nat) (p : P) (ρ : Env) : ex (.ownC i p) ρ = (ev p ρ).bind fun d => match d with
    | .list ds => .ok (.nx (ρ.set i (.ow ds)))
    | _ => .stuck := rfl
@[simp] theorem ex_asg (tg : Tg) (p : P) (ρ : Env) : ex (.asg tg p) ρ = (ev p ρ).bind fun d => (asgT tg d ρ).bind fun ρ' => .ok (.nx ρ') := rfl
@[simp] theorem ex_par (is : List Nat) (ps : Ps) (ρ : Env) : ex (.par is ps) ρ = (evP ps ρ).bind fun ds => (setAll is ds ρ).bind fun ρ' => .ok (.nx ρ') := rfl
@[simp] theorem ex_app (i : Nat) (p : P) (ρ : Env) : ex (.app i p) ρ = R.of (ownGet ρ[i]?) fun ds => (ev p ρ).bind fun d => R.when (lok ds) (.ok (.nx (ρ.set i (.ow (ds ++ [d]))))) := rfl
@[simp] theorem ex_ext (i : Nat) (p : P) (ρ : Env) : ex (.ext i p) ρ = R.of (ownGet ρ[i]?) fun ds => (ev p ρ).bind fun d => match d with
    | .list es => R.when (decide (ds.length + es.length ≤ lim)) (.ok (.nx (ρ.set i (.ow (ds ++ es)))))
    | _ => .stuck := rfl
@[simp] theorem ex_evl (p : P) (ρ : Env) : ex (.evl p) ρ = (ev p ρ).bind fun _ => .ok (.nx ρ) := rfl
@[simp] theorem ex_iff (c : P) (a b : S) (ρ : Env) : ex (.iff c a b) ρ = (boolR (ev c ρ)).bind fun k => cond k (ex a ρ) (ex b ρ) := rfl
@[simp] theorem ex_forr (it : It) (tg : Tg) (b : S) (ρ : Env) : ex (.forr it tg b) ρ = (evI it ρ).bind fun ds => loopF (fun d ρ => (asgT tg d ρ).bind fun ρ' => ex b ρ') ds ρ := rfl
@[simp] theorem ex_whl (n : Nat) (c : P) (b : S) (ρ : Env) : ex (.whl n c b) ρ = loopW (fun ρ => boolR (ev c ρ)) (fun ρ => ex b ρ) n ρ := rfl
@[simp] theorem ex_ret (p : P) (ρ : Env) : ex (.ret p) ρ = (ev p ρ).bind fun d => .ok (.rt d) := rfl
@[simp] theorem ex_rai (x : Str) (ρ : Env) : ex (.rai x) ρ = .exc x := rfl
@[simp] theorem ex_frz (i : Nat) (ρ : Env) : ex (.frz i) ρ = .ok (.nx (frzS ρ i)) := rfl
@[simp] theorem ex_seq (a b : S) (ρ : Env) : ex (.seq a b) ρ = (ex a ρ).next fun ρ' => ex b ρ' := rfl
@[simp] theorem get_da (d : PyData) : Sl.get (some (.da d)) = .ok d := rfl
@[simp] theorem own_ow (ds : List PyData) : ownGet (some (.ow ds)) = some ds := rfl
@[simp] theorem boolR_ok (b : Bool) : boolR (.ok (.bool b)) = .ok b := rfl
@[simp] theorem asgT_nm (i : Nat) (d : PyData) (ρ : Env) : asgT (.nm i) d ρ = .ok (ρ.set i (.da d)) := rfl
@[simp] theorem asgT_tp (ts : List Tg) (ds : List PyData) (ρ : Env) : asgT (.tp ts) (.tuple ds) ρ = asgT.asgTs ts ds ρ := rfl
@[simp] theorem asgTs_nil (ρ : Env) : asgT.asgTs [] [] ρ = .ok ρ := rfl
@[simp] theorem asgTs_cons (t : Tg) (ts : List Tg) (d : PyData) (ds : List PyData) (ρ : Env) : asgT.asgTs (t :: ts) (d :: ds) ρ = (asgT t d ρ).bind fun ρ' => asgT.asgTs ts ds ρ' := rfl
@[simp] theorem setAll_nil (ρ : Env) : setAll [] [] ρ = .ok ρ := rfl
@[simp] theorem setAll_cons (i : Nat) (is : List Nat) (d : Sl) (ds : List Sl) (ρ : Env) : setAll (i :: is) (d :: ds) ρ = setAll is ds (ρ.set i d) := rfl
@[simp] theorem wipeS_nil (ρ : Env) : wipeS ρ [] = ρ := rfl
@[simp] theorem wipeS_cons (ρ : Env) (v : Nat) (vs : List Nat) : wipeS ρ (v :: vs) = (wipeS ρ vs).set v .no := rfl
@[simp] theorem loopF_nil (b : PyData → Env → R Out) (ρ : Env) : loopF b [] ρ = .ok (.nx ρ) := rfl
@[simp] theorem loopF_cons (b : PyData → Env → R Out) (d : PyData) (ds : List PyData) (ρ : Env) : loopF b (d :: ds) ρ = (b d ρ).next fun ρ' => loopF b ds ρ' := rfl
@[simp] theorem firm_ok {α : Type} (a : α) : (R.ok a).firm = .ok a := rfl
/-! #### operators -/
@[simp] theorem add_int (i j : Int) : bi2 .add (.int i) (.int j) = .ok (.int (i + j)) := rfl
@[simp] theorem sub_int (i j : Int) : bi2 .sub (.int i) (.int j) = .ok (.int (i - j)) := rfl
@[simp] theorem lt_int (i j : Int) : bi2 .lt (.int i) (.int j) = .ok (.bool (decide (i < j))) := rfl
@[simp] theorem le_int (i j : Int) : bi2 .le (.int i) (.int j) = .ok (.bool (decide (i ≤ j))) := rfl
@[simp] theorem gt_int (i j : Int) : bi2 .gt (.int i) (.int j) = .ok (.bool (decide (j < i))) := rfl
@[simp] theorem ge_int (i j : Int) : bi2 .ge (.int i) (.int j) = .ok (.bool (decide (j ≤ i))) := rfl
@[simp] theorem eq_int (i j : Int) : bi2 .eq (.int i) (.int j) = .ok (.bool (decide (i = j))) := by
  have e : bi2 .eq (.int i) (.int j) = R.ok (PyData.bool (i == j)) := by show R.when (depOk _ || depOk _) _ = _; rw [show depOk (.int i) = true from rfl, Bool.true_or, R.when_true, PyData.eqv]
  rw [e]
  by_cases h : i = j <;> simp [h]
@[simp] theorem ne_int (i j : Int) : bi2 .ne (.int i) (.int j) = .ok (.bool (!decide (i = j))) := by
  have e : bi2 .ne (.int i) (.int j) = R.ok (PyData.bool (!(i == j))) := by show R.when (depOk _ || depOk _) _ = _; rw [show depOk (.int i) = true from rfl, Bool.true_or, R.when_true, PyData.eqv]
  rw [e]
  by_cases h : i = j <;> simp [h]
@[simp] theorem eq_str (i j : Str) : bi2 .eq (.str i) (.str j) = .ok (.bool (decide (i = j))) := by
  have e : bi2 .eq (.str i) (.str j) = R.ok (PyData.bool (i == j)) := by show R.when (depOk _ || depOk _) _ = _; rw [show depOk (.str i) = true from rfl, Bool.true_or, R.when_true, PyData.eqv]
  rw [e]
  by_cases h : i = j <;> simp [h]
@[simp] theorem ne_str (i j : Str) : bi2 .ne (.str i) (.str j) = .ok (.bool (!decide (i = j))) := by
  have e : bi2 .ne (.str i) (.str j) = R.ok (PyData.bool (!(i == j))) := by show R.when (depOk _ || depOk _) _ = _; rw [show depOk (.str i) = true from rfl, Bool.true_or, R.when_true, PyData.eqv]
  rw [e]
  by_cases h : i = j <;> simp [h]
@[simp] theorem is_bool (a c : Bool) : bi2 .is (.bool a) (.bool c) = .ok (.bool (decide (a = c))) := rfl
@[simp] theorem isnt_bool (a c : Bool) : bi2 .isnt (.bool a) (.bool c) = .ok (.bool (!decide (a = c))) := rfl
@[simp] theorem mod_int {i j : Int} : bi2 .mod (.int i) (.int j) = R.when (decide (0 < j)) (.ok (.int (i % j))) := rfl
@[simp] theorem fdiv_int {i j : Int} : bi2 .fdiv (.int i) (.int j) = R.when (decide (0 < j ∧ j < 2 ^ 64)) (.ok (.int (i / j))) := rfl
@[simp] theorem mul_int {i j : Int} : bi2 .mul (.int i) (.int j) = R.when (i64 i || i64 j) (.ok (.int (i * j))) := rfl
@[simp] theorem pow_int {i j : Int} : bi2 .pow (.int i) (.int j) = R.when (decide (0 ≤ j ∧ j ≤ 1000 ∧ i.natAbs < 2 ^ 64)) (.ok (.int (i ^ j.toNat))) := rfl
@[simp] theorem max2_int (i j : Int) : bi2 .max2 (.int i) (.int j) = .ok (.int (if j > i then j else i)) := rfl
@[simp] theorem min2_int (i j : Int) : bi2 .min2 (.int i) (.int j) = .ok (.int (if j < i then j else i)) := rfl
@[simp] theorem len_list (ds : List PyData) : un1 .len (.list ds) = .ok (.int ds.length) := rfl
@[simp] theorem len_tuple (ds : List PyData) : un1 .len (.tuple ds) = .ok (.int ds.length) := rfl
@[simp] theorem len_str (z : Str) : un1 .len (.str z) = R.when (sok z) (.ok (.int z.length)) := rfl
@[simp] theorem neg_int (i : Int) : un1 .neg (.int i) = .ok (.int (-i)) := rfl
@[simp] theorem isi_is (T : String) (d : PyData) : un1 (.isi T) d = isiD T d := by cases d <;> rfl
@[simp] theorem toTuple_list (ds : List PyData) : un1 .toTuple (.list ds) = .ok (.tuple ds) := rfl
@[simp] theorem all_list (ds : List PyData) : un1 .all (.list ds) = R.of (asBools ds) fun bs => .ok (.bool (bs.all id)) := rfl
@[simp] theorem any_list (ds : List PyData) : un1 .any (.list ds) = R.of (asBools ds) fun bs => .ok (.bool (bs.any id)) := rfl
@[simp] theorem idx_tuple (ds : List PyData) (i : Int) : bi2 .idx (.tuple ds) (.int i) = R.of (L2.atI ds i) fun d => .ok d := rfl
@[simp] theorem idx_list (ds : List PyData) (i : Int) : bi2 .idx (.list ds) (.int i) = R.of (L2.atI ds i) fun d => .ok d := rfl
@[simp] theorem sfrom_list (ds : List PyData) (i : Int) : bi2 .sfrom (.list ds) (.int i) = .ok (.list (ds.drop (sixN ds.length i))) := rfl
@[simp] theorem sfrom_tuple (ds : List PyData) (i : Int) : bi2 .sfrom (.tuple ds) (.int i) = .ok (.tuple (ds.drop (sixN ds.length i))) := rfl
@[simp] theorem sfrom_str (z : Str) (i : Int) : bi2 .sfrom (.str z) (.int i) = R.when (sok z) (.ok (.str ⟨(z.cps.toList.drop (sixN z.length i)).toArray⟩)) := rfl
@[simp] theorem inn_str (a c : Str) : bi2 .inn (.str a) (.str c) = .ok (.bool (strIn a c)) := rfl
@[simp] theorem nin_str (a c : Str) : bi2 .nin (.str a) (.str c) = .ok (.bool (!strIn a c)) := rfl
@[simp] theorem seqOf_list (ds : List PyData) : seqOf (.list ds) = some ds := rfl
@[simp] theorem seqOf_tuple (ds : List PyData) : seqOf (.tuple ds) = some ds := rfl
@[simp] theorem seqOf_str (z : Str) : seqOf (.str z) = some (z.cps.toList.map fun c => .str ⟨#[c]⟩) := rfl
@[simp] theorem rcv_add (d : PyData) : rcv .add d = true := rfl
@[simp] theorem rcv_sub (d : PyData) : rcv .sub d = true := rfl
@[simp] theorem rcv_mul (d : PyData) : rcv .mul d = true := rfl
@[simp] theorem rcv_mod (d : PyData) : rcv .mod d = true := rfl
@[simp] theorem rcv_fdiv (d : PyData) : rcv .fdiv d = true := rfl
@[simp] theorem rcv_pow (d : PyData) : rcv .pow d = true := rfl
@[simp] theorem rcv_eq (d : PyData) : rcv .eq d = true := rfl
@[simp] theorem rcv_ne (d : PyData) : rcv .ne d = true := rfl
@[simp] theorem rcv_lt (d : PyData) : rcv .lt d = true := rfl
@[simp] theorem rcv_le (d : PyData) : rcv .le d = true := rfl
@[simp] theorem rcv_gt (d : PyData) : rcv .gt d = true := rfl
@[simp] theorem rcv_ge (d : PyData) : rcv .ge d = true := rfl
@[simp] theorem rcv_is (d : PyData) : rcv .is d = true := rfl
@[simp] theorem rcv_isnt (d : PyData) : rcv .isnt d = true := rfl
@[simp] theorem rcv_inn (d : PyData) : rcv .inn d = true := rfl
@[simp] theorem rcv_nin (d : PyData) : rcv .nin d = true := rfl
@[simp] theorem rcv_max2 (d : PyData) : rcv .max2 d = true := rfl
@[simp] theorem rcv_min2 (d : PyData) : rcv .min2 d = true := rfl
@[simp] theorem rcv_idx (d : PyData) : rcv .idx d = true := rfl
@[simp] theorem rcv_sfrom (d : PyData) : rcv .sfrom d = true := rfl
@[simp] theorem rcv_sto (d : PyData) : rcv .sto d = true := rfl
@[simp] theorem rcv_join (z : Str) : rcv .join (.str z) = true := rfl
/-- compL that drops nothing -/
theorem compL_all {f : PyData → R (Option PyData)} {g : PyData → PyData} : ∀ (ds : List PyData), (∀ d ∈ ds, f d = .ok (some (g d))) → compL f ds = .ok (ds.map g)
  | [], _ => rfl
  | d :: ds, h => by
    show (f d).bind _ = _
    rw [h d List.mem_cons_self, R.bind_ok, compL_all ds fun e he => h e (List.mem_cons_of_mem _ he)]
    rfl
theorem compL_some {f : PyData → R (Option PyData)} {g : PyData → Option PyData} : ∀ (ds : List PyData), (∀ d ∈ ds, f d = .ok (g d)) → compL f ds = .ok (ds.filterMap g)
  | [], _ => rfl
  | d :: ds, h => by
    show (f d).bind _ = _
    rw [h d List.mem_cons_self, R.bind_ok, compL_some ds fun e he => h e (List.mem_cons_of_mem _ he)]
    rw [R.bind_ok, List.filterMap_cons]
    cases g d <;> rfl
end QB
namespace QL
open PySem QB
theorem is_int_int (v a b : Int) : f_is_int [.int v, .int a, .int b] = .ok (.bool (decide (a ≤ v) && decide (v ≤ b))) := by
  simp [f_is_int, b_is_int, isiD, isiT, isiB, tyName]
  cases decide (a ≤ v) <;> simp
end QL
/-! ### lists of numbers, sets, loops -/
namespace QB
open PySem
@[simp] theorem asInts_ints (ns : List Int) : asInts (ns.map .int) = some ns := by
  induction ns with
  | nil => rfl
  | cons n ns ih => rw [List.map_cons, asInts, ih]; rfl
@[simp] theorem asBools_map (ns : List Bool) : asBools (ns.map .bool) = some ns := by
  induction ns with
  | nil => rfl
  | cons n ns ih => rw [List.map_cons, asBools, ih]; rfl
@[simp] theorem asStrs_map (ns : List Str) : asStrs (ns.map .str) = some ns := by
  induction ns with
  | nil => rfl
  | cons n ns ih => rw [List.map_cons, asStrs, ih]; rfl
theorem depthAll_le {ds : List PyData} {n : Nat} (h : ∀ d ∈ ds, d.depth ≤ n) : PyData.depthAll ds ≤ n := by
  induction ds with
  | nil => exact Nat.zero_le _
  | cons d ds ih =>
    rw [PyData.depthAll]
    exact Nat.max_le.mpr ⟨h d List.mem_cons_self, ih fun e he => h e (List.mem_cons_of_mem _ he)⟩
theorem dep_ints (ns : List Int) : PyData.depthAll (ns.map .int) ≤ 0 := depthAll_le fun d hd => by
  obtain ⟨i, _, rfl⟩ := List.mem_map.mp hd
  exact Nat.le_refl _
theorem depOk_list {ds : List PyData} (h : PyData.depthAll ds ≤ 15) : depOk (.list ds) = true := decide_eq_true (by rw [PyData.depth]; omega)
theorem depOk_tuple {ds : List PyData} (h : PyData.depthAll ds ≤ 15) : depOk (.tuple ds) = true := decide_eq_true (by rw [PyData.depth]; omega)
@[simp] theorem depOk_ints (ns : List Int) : depOk (.list (ns.map .int)) = true := depOk_list (Nat.le_trans (dep_ints ns) (by decide))
@[simp] theorem depOk_int (i : Int) : depOk (.int i) = true := rfl
@[simp] theorem depOk_bool (i : Bool) : depOk (.bool i) = true := rfl
@[simp] theorem depOk_none : depOk .none = true := rfl
@[simp] theorem depOk_str (i : Str) : depOk (.str i) = true := rfl
theorem eqv_ints : ∀ (a b : List Int), PyData.eqvAll (a.map .int) (b.map .int) = decide (a = b)
  | [], [] => by simp [PyData.eqvAll]
  | [], _ :: _ => by simp [PyData.eqvAll]
  | _ :: _, [] => by simp [PyData.eqvAll]
  | x :: a, y :: b => by
    rw [List.map_cons, List.map_cons, PyData.eqvAll, PyData.eqv, eqv_ints a b]
    by_cases h1 : x = y <;> by_cases h2 : a = b <;> simp [h1, h2]
@[simp] theorem eq_ints (a b : List Int) : bi2 .eq (.list (a.map .int)) (.list (b.map .int)) = .ok (.bool (decide (a = b))) := by
  show R.when (depOk _ || depOk _) _ = _
  rw [depOk_ints, Bool.true_or, R.when_true, PyData.eqv, eqv_ints]
@[simp] theorem ne_ints (a b : List Int) : bi2 .ne (.list (a.map .int)) (.list (b.map .int)) = .ok (.bool (!decide (a = b))) := by
  show R.when (depOk _ || depOk _) _ = _
  rw [depOk_ints, Bool.true_or, R.when_true, PyData.eqv, eqv_ints]
theorem inD_ints (i : Int) (a : List Int) : inD (.int i) (a.map .int) = decide (i ∈ a) := by
  unfold inD
  rw [List.any_map]
  induction a with
  | nil => rfl
  | cons x a ih =>
    rw [List.any_cons, ih]
    show (PyData.eqv (.int x) (.int i) || _) = _
    rw [PyData.eqv]
    by_cases h : x = i
    · subst h; simp
    · have h' : i ≠ x := fun z => h z.symm
      simp [h, h']
@[simp] theorem inn_ints (i : Int) (a : List Int) : bi2 .inn (.int i) (.list (a.map .int)) = .ok (.bool (decide (i ∈ a))) := by
  show R.when (depOk _) _ = _
  rw [depOk_int, R.when_true, inD_ints]
@[simp] theorem nin_ints (i : Int) (a : List Int) : bi2 .nin (.int i) (.list (a.map .int)) = .ok (.bool (!decide (i ∈ a))) := by
  show R.when (depOk _) _ = _
  rw [depOk_int, R.when_true, inD_ints]
/-! #### sorted(set(..)) of numbers -/
def sortI (ns : List Int) : List Int := (dedupE ns).mergeSort fun a b => decide (a ≤ b)
theorem mem_sortI {x : Int} {ns : List Int} : x ∈ sortI ns ↔ x ∈ ns := by
  unfold sortI
  rw [(List.mergeSort_perm ..).mem_iff, mem_dedupE]
theorem sortI_lt (ns : List Int) : (sortI ns).Pairwise (· < ·) := by
  have h1 : (sortI ns).Pairwise fun a b => decide (a ≤ b) = true := List.pairwise_mergeSort (fun a b c h1 h2 => by simp at *; omega) (fun a b => by simp; omega) _
  have h2 : (sortI ns).Nodup := (List.mergeSort_perm ..).nodup_iff.mpr (nodup_dedupE ns)
  exact (h1.and h2).imp fun ⟨a, b⟩ => by simp at a; omega
theorem lt_ext {a b : List Int} (ha : a.Pairwise (· < ·)) (hb : b.Pairwise (· < ·)) (h : ∀ x, x ∈ a ↔ x ∈ b) : a = b := by
  have na : a.Nodup := ha.imp fun h => by omega
  have nb : b.Nodup := hb.imp fun h => by omega
  have p : a.Perm b := (List.perm_ext_iff_of_nodup na nb).mpr h
  exact p.eq_of_pairwise (fun x y _ _ h1 h2 => by omega) ha hb
theorem sortI_congr {a b : List Int} (h : ∀ x, x ∈ a ↔ x ∈ b) : sortI a = sortI b := lt_ext (sortI_lt a) (sortI_lt b) fun x => by rw [mem_sortI, mem_sortI, h]
theorem sortI_id {a : List Int} (h : a.Pairwise (· < ·)) : sortI a = a := lt_ext (sortI_lt a) h fun x => mem_sortI
theorem sortI_len (ns : List Int) : (sortI ns).length ≤ ns.length := by
  unfold sortI
  rw [(List.mergeSort_perm ..).length_eq]
  have : ∀ l : List Int, (dedupE l).length ≤ l.length := by
    intro l
    induction l with
    | nil => exact Nat.le_refl _
    | cons k l ih => rw [dedupE, List.length_cons, List.length_cons]; exact Nat.succ_le_succ (Nat.le_trans (List.length_filter_le _ _) ih)
  exact this ns
theorem alike_ints (ns : List Int) : allAlike (ns.map .int) = true := by
  unfold allAlike
  simp [PySem.W.alike]
theorem sortable_ints (ns : List Int) : sortable (ns.map .int) = true := by
  unfold sortable
  rw [Bool.or_eq_true]
  right
  simp
theorem depall_ints (ns : List Int) : (ns.map PyData.int).all depOk = true := by simp
theorem eqv_int (a b : Int) : PyData.eqv (.int a) (.int b) = decide (a = b) := by
  rw [PyData.eqv]
  by_cases h : a = b <;> simp [h]
theorem sortD_ints (ns : List Int) : sortD (ns.map .int) = (ns.mergeSort fun a b => decide (a ≤ b)).map .int := by
  unfold sortD
  refine (PySem.W.sort_maps (r := fun a b => decide (a ≤ b)) PyData.int fun a _ b _ => ?_).symm
  show _ = !PySem.W.dataLt (.int b) (.int a)
  rw [PySem.W.dataLt_int]
  by_cases h : b < a
  · have : ¬ a ≤ b := by omega
    simp [h, this]
  · have : a ≤ b := by omega
    simp [h, this]
theorem sset_ints {ns : List Int} (h : ns.length ≤ 2000) : un1 .sset (.list (ns.map .int)) = .ok (.list ((sortI ns).map .int)) := by
  show R.when (setOk (ns.map .int)) (srtD (dedup (ns.map .int))) = _
  have h1 : setOk (ns.map .int) = true := by
    unfold setOk
    simp [h]
  rw [h1, R.when_true, dedup_map eqv_int]
  unfold srtD
  rw [alike_ints, sortable_ints, depall_ints]
  have h2 : lok ((dedupE ns).map PyData.int) = true := by
    refine decide_eq_true ?_
    have : (dedupE ns).length ≤ ns.length := by have := sortI_len ns; unfold sortI at this; rwa [(List.mergeSort_perm ..).length_eq] at this
    rw [List.length_map]
    have : (lim : Nat) = 1000000 := rfl
    omega
  rw [h2, sortD_ints]
  rfl
@[simp] theorem srt_list (ds : List PyData) : un1 .srt (.list ds) = srtD ds := rfl
/-! #### loops -/
theorem loopF_inv {b : PyData → Env → R Out} {I : Nat → Env → Prop} : ∀ (ds : List PyData) (n : Nat) (ρ : Env), I n ρ → (∀ i d ρ, ds[i]? = some d → I (n + i) ρ → ∃ ρ', b d ρ = .ok (.nx ρ') ∧ I (n + i + 1) ρ') → ∃ ρ', loopF b ds ρ = .ok (.nx ρ') ∧ I (n + ds.length) ρ'
  | [], n, ρ, h, _ => ⟨ρ, rfl, h⟩
  | d :: ds, n, ρ, h, st => by
    obtain ⟨ρ1, e1, h1⟩ := st 0 d ρ rfl h
    obtain ⟨ρ2, e2, h2⟩ := loopF_inv ds (n + 1) ρ1 h1 fun i d' ρ' hi h' => by
      have := st (i + 1) d' ρ' hi (by rwa [show n + (i + 1) = n + 1 + i by omega])
      rwa [show n + (i + 1) + 1 = n + 1 + i + 1 by omega] at this
    refine ⟨ρ2, ?_, by rwa [show n + (d :: ds).length = n + 1 + ds.length by simp; omega]⟩
    show (b d ρ).next _ = _
    rw [e1]
    exact e2
theorem loopF_run {b : PyData → Env → R Out} {I : Nat → Env → Prop} (ds : List PyData) (ρ : Env) (h : I 0 ρ) (st : ∀ i d ρ, ds[i]? = some d → I i ρ → ∃ ρ', b d ρ = .ok (.nx ρ') ∧ I (i + 1) ρ') : ∃ ρ', loopF b ds ρ = .ok (.nx ρ') ∧ I ds.length ρ' := by
  obtain ⟨ρ', h1, h2⟩ := loopF_inv (I := I) ds 0 ρ h fun i d ρ hi q => by
    rw [Nat.zero_add] at q ⊢
    exact st i d ρ hi q
  exact ⟨ρ', h1, by rwa [Nat.zero_add] at h2⟩
theorem loopW_inv {c : Env → R Bool} {b : Env → R Out} {I : Nat → Env → Prop} (st : ∀ m ρ, I m ρ → c ρ = .ok false ∨ (c ρ = .ok true ∧ ∃ ρ' m', b ρ = .ok (.nx ρ') ∧ m' < m ∧ I m' ρ')) :
    ∀ (n m : Nat) (ρ : Env), m < n → I m ρ → ∃ ρ' m', loopW c b n ρ = .ok (.nx ρ') ∧ I m' ρ' ∧ c ρ' = .ok false
  | 0, m, ρ, h, _ => absurd h (Nat.not_lt_zero _)
  | n + 1, m, ρ, h, hi => by
    rcases st m ρ hi with e | ⟨e, ρ', m', e2, hm, h'⟩
    · exact ⟨ρ, m, by rw [loopW, e]; rfl, hi, e⟩
    · obtain ⟨ρ2, m2, e3, h3⟩ := loopW_inv st n m' ρ' (by omega) h'
      refine ⟨ρ2, m2, ?_, h3⟩
      rw [loopW, e]
      show (b ρ).next _ = _
      rw [e2]
      exact e3
theorem rngI_ok {i j : Int} (h1 : -1000000000 ≤ i) (h2 : j - i ≤ 1000000) (h3 : i ≤ 1000000000) (h4 : -1000000000 ≤ j) : rngI i j = .ok ((List.range (j - i).toNat).map fun k => .int (i + (k : Nat))) := by
  unfold rngI
  rw [decide_eq_true ⟨h1, h2, h3, h4⟩]; rfl
theorem atI_nat' {α : Type} {xs : List α} {i : Int} (h0 : 0 ≤ i) (h1 : i < xs.length) : L2.atI xs i = xs[i.toNat]? := by
  unfold L2.atI L2.ixN
  rw [if_pos h0, if_pos h1]; rfl
end QB
/-! ### what a statement's run brings about -/
namespace QB
open PySem
def Wp0 (x : R Out) (N : Env → Prop) (T : PyData → Prop) : Prop := match x with
  | .ok (.nx ρ) => N ρ
  | .ok (.rt d) => T d
  | _ => False
/-- a statement's run goes on in N or hands back T; never unfolded by itself -/
structure Wp (x : R Out) (N : Env → Prop) (T : PyData → Prop) : Prop where
  out : Wp0 x N T
/-- it hands back a datum, and such a one -/
def Rets (x : R PyData) (Q : PyData → Prop) : Prop := ∃ d, x = .ok d ∧ Q d
theorem Wp.of {x y : R Out} {N : Env → Prop} {T : PyData → Prop} (e : x = y) (h : Wp0 y N T) : Wp x N T := ⟨by rw [e]; exact h⟩
theorem Wp.cs {x : R Out} {N : Env → Prop} {T : PyData → Prop} (h : Wp x N T) : (∃ ρ, x = .ok (.nx ρ) ∧ N ρ) ∨ ∃ d, x = .ok (.rt d) ∧ T d := by
  have h := h.out
  cases x with
  | ok o => cases o with
    | nx ρ => exact .inl ⟨ρ, rfl, h⟩
    | rt d => exact .inr ⟨d, rfl, h⟩
  | exc c => exact h.elim
  | stuck => exact h.elim
section
variable {N : Env → Prop} {T : PyData → Prop} {ρ ρ' : Env} {p c : P} {d : PyData} {a b : S} {tg : Tg} {it : It} {i n : Nat} {ds es : List PyData}
theorem Wp.imp {x : R Out} {N' : Env → Prop} {T' : PyData → Prop} (h : Wp x N T) (h1 : ∀ ρ, N ρ → N' ρ) (h2 : ∀ d, T d → T' d) : Wp x N' T' := by
  rcases h.cs with ⟨ρ, e, h⟩ | ⟨d, e, h⟩
  · exact Wp.of e (h1 _ h)
  · exact Wp.of e (h2 _ h)
theorem rets_of {k N0 : Nat} {Q : PyData → Prop} (hl : ds.length = k) (h : Wp (ex b (ds.map .da ++ List.replicate (N0 - k) .no)) (fun _ => Q .none) Q) : Rets (run k N0 b ds) Q := by
  rw [run_is k N0 b ds hl]
  rcases h.cs with ⟨ρ, e, h⟩ | ⟨d, e, h⟩
  · rw [e]; exact ⟨_, rfl, h⟩
  · rw [e]; exact ⟨_, rfl, h⟩
theorem wp_seq (h : Wp (ex a ρ) (fun ρ' => Wp (ex b ρ') N T) T) : Wp (ex (.seq a b) ρ) N T := by
  rcases h.cs with ⟨ρ, e, h⟩ | ⟨d, e, h⟩
  · rw [ex_seq, e]; exact h
  · rw [ex_seq, e]; exact ⟨h⟩
theorem wp_nil (h : N ρ) : Wp (ex .nil ρ) N T := ⟨h⟩
theorem wp_asg (e : ev p ρ = .ok d) (e2 : asgT tg d ρ = .ok ρ') (h : N ρ') : Wp (ex (.asg tg p) ρ) N T := by rw [ex_asg, e, R.bind_ok, e2]; exact ⟨h⟩
theorem wp_set (e : ev p ρ = .ok d) (h : N (ρ.set i (.da d))) : Wp (ex (.asg (.nm i) p) ρ) N T := wp_asg e rfl h
theorem wp_own {as : Ps} (e : evs as ρ = .ok ds) (h : N (ρ.set i (.ow ds))) : Wp (ex (.own i as) ρ) N T := by rw [ex_own, e]; exact ⟨h⟩
theorem wp_ownA {a b : P} (e : ev a ρ = .ok (.list ds)) (e2 : ev b ρ = .ok (.list es)) (hl : ds.length + es.length ≤ 1000000) (h : N (ρ.set i (.ow (ds ++ es)))) : Wp (ex (.ownA i a b) ρ) N T := by
  rw [ex_ownA, e, R.bind_ok, e2, R.bind_ok]
  show Wp (R.when (decide (ds.length + es.length ≤ lim)) _) N T
  rw [show decide (ds.length + es.length ≤ lim) = true from decide_eq_true hl]; exact ⟨h⟩
theorem wp_ownC (e : ev p ρ = .ok (.list ds)) (h : N (ρ.set i (.ow ds))) : Wp (ex (.ownC i p) ρ) N T := by rw [ex_ownC, e]; exact ⟨h⟩
theorem wp_par {is : List Nat} {ps : Ps} {sls : List Sl} (e : evP ps ρ = .ok sls) (e2 : setAll is sls ρ = .ok ρ') (h : N ρ') : Wp (ex (.par is ps) ρ) N T := by rw [ex_par, e, R.bind_ok, e2]; exact ⟨h⟩
theorem wp_app (o : ρ[i]? = some (.ow ds)) (e : ev p ρ = .ok d) (hl : ds.length ≤ 1000000) (h : N (ρ.set i (.ow (ds ++ [d])))) : Wp (ex (.app i p) ρ) N T := by
  rw [ex_app, o, own_ow, R.of_some, e, R.bind_ok, show lok ds = true from decide_eq_true hl]; exact ⟨h⟩
theorem wp_ext (o : ρ[i]? = some (.ow ds)) (e : ev p ρ = .ok (.list es)) (hl : ds.length + es.length ≤ 1000000) (h : N (ρ.set i (.ow (ds ++ es)))) : Wp (ex (.ext i p) ρ) N T := by
  rw [ex_ext, o, own_ow, R.of_some, e, R.bind_ok]
  show Wp (R.when (decide (ds.length + es.length ≤ lim)) _) N T
  rw [show decide (ds.length + es.length ≤ lim) = true from decide_eq_true hl]; exact ⟨h⟩
theorem wp_evl (e : ev p ρ = .ok d) (h : N ρ) : Wp (ex (.evl p) ρ) N T := by rw [ex_evl, e]; exact ⟨h⟩
theorem wp_if {k : Bool} (e : ev c ρ = .ok (.bool k)) (h1 : k = true → Wp (ex a ρ) N T) (h2 : k = false → Wp (ex b ρ) N T) : Wp (ex (.iff c a b) ρ) N T := by
  rw [ex_iff, e, boolR_ok, R.bind_ok]
  cases k with
  | true => exact h1 rfl
  | false => exact h2 rfl
theorem wp_ifT (e : ev c ρ = .ok (.bool true)) (h : Wp (ex a ρ) N T) : Wp (ex (.iff c a b) ρ) N T := wp_if e (fun _ => h) (fun z => nomatch z)
theorem wp_ifF (e : ev c ρ = .ok (.bool false)) (h : Wp (ex b ρ) N T) : Wp (ex (.iff c a b) ρ) N T := wp_if e (fun z => nomatch z) (fun _ => h)
theorem wp_ret (e : ev p ρ = .ok d) (h : T d) : Wp (ex (.ret p) ρ) N T := by rw [ex_ret, e]; exact ⟨h⟩
theorem wp_frz (h : N (frzS ρ i)) : Wp (ex (.frz i) ρ) N T := ⟨h⟩
theorem wp_pass (h : N ρ) : Wp (ex .pass ρ) N T := ⟨h⟩
theorem wp_loop {f : PyData → Env → R Out} (I : Nat → Env → Prop) : ∀ (ds : List PyData) (n : Nat) (ρ : Env), I n ρ → (∀ i d ρ, ds[i]? = some d → I (n + i) ρ → Wp (f d ρ) (I (n + i + 1)) T) → (∀ ρ, I (n + ds.length) ρ → N ρ) → Wp (loopF f ds ρ) N T
  | [], n, ρ, h, _, fin => ⟨fin ρ h⟩
  | d :: ds, n, ρ, h, st, fin => by
    rw [loopF_cons]
    rcases (st 0 d ρ rfl h).cs with ⟨ρ1, e, h1⟩ | ⟨d1, e, h1⟩
    · rw [e]
      refine wp_loop I ds (n + 1) ρ1 h1 (fun i d' ρ' hi h' => ?_) fun ρ hh => fin ρ (by rwa [show n + (d :: ds).length = n + 1 + ds.length by simp; omega])
      have := st (i + 1) d' ρ' hi (by rwa [show n + (i + 1) = n + 1 + i by omega])
      rwa [show n + (i + 1) + 1 = n + 1 + i + 1 by omega] at this
    · rw [e]; exact ⟨h1⟩
theorem wp_for (I : Nat → Env → Prop) (e : evI it ρ = .ok ds) (h0 : I 0 ρ) (st : ∀ i d ρ, ds[i]? = some d → I i ρ → ∃ ρ1, asgT tg d ρ = .ok ρ1 ∧ Wp (ex b ρ1) (I (i + 1)) T) (fin : ∀ ρ, I ds.length ρ → N ρ) : Wp (ex (.forr it tg b) ρ) N T := by
  rw [ex_forr, e, R.bind_ok]
  refine wp_loop I ds 0 ρ h0 (fun i d ρ hi h => ?_) fun ρ h => fin ρ (by rwa [Nat.zero_add] at h)
  rw [Nat.zero_add] at h ⊢
  obtain ⟨ρ1, e1, h1⟩ := st i d ρ hi h
  rw [e1]
  exact h1
theorem wp_whl (I : Nat → Env → Prop) {m : Nat} (hm : m < n) (h0 : I m ρ) (st : ∀ m ρ, I m ρ → (ev c ρ = .ok (.bool false) ∧ N ρ) ∨ (ev c ρ = .ok (.bool true) ∧ Wp (ex b ρ) (fun ρ' => ∃ m', m' < m ∧ I m' ρ') T)) : Wp (ex (.whl n c b) ρ) N T := by
  rw [ex_whl]
  induction n generalizing m ρ with
  | zero => exact absurd hm (Nat.not_lt_zero _)
  | succ n ih =>
    rw [loopW]
    rcases st m ρ h0 with ⟨e, h⟩ | ⟨e, h⟩
    · rw [e, boolR_ok]; exact ⟨h⟩
    · rw [e, boolR_ok, R.bind_ok]
      show Wp ((ex b ρ).next _) N T
      rcases h.cs with ⟨ρ1, e, m', hm', h'⟩ | ⟨d1, e, h1⟩
      · rw [e]; exact ih (by omega) h'
      · rw [e]; exact ⟨h1⟩
end
/-! #### comprehensions -/
theorem ev_comp_ok {α : Type} {it : It} {tg : Tg} {elt : P} {own : List (Str × Nat)} {ρ : Env} {xs : List α} {enc g : α → PyData} (h : evI it ρ = .ok (xs.map enc)) (hl : xs.length ≤ 1000000) (hf : ∀ x ∈ xs, ∃ ρ1, asgT tg (enc x) (wipeS ρ (own.map (·.2))) = .ok ρ1 ∧ ev elt ρ1 = .ok (g x)) :
    ev (.comp it tg elt own) ρ = .ok (.list (xs.map g)) := by
  rw [ev_comp, h, R.bind_ok, show lok (xs.map enc) = true from decide_eq_true (by rw [List.length_map]; exact hl), R.when_true]
  have e : compL (fun d => (asgT tg d (wipeS ρ (own.map (·.2)))).bind fun ρ1 => (ev elt ρ1).bind fun x => .ok (some x)) (xs.map enc) = .ok (xs.map g) := by
    clear h hl
    induction xs with
    | nil => rfl
    | cons x xs ih =>
      obtain ⟨ρ1, e1, e2⟩ := hf x List.mem_cons_self
      rw [List.map_cons, compL, ih fun y hy => hf y (List.mem_cons_of_mem _ hy), e1, R.bind_ok, e2]
      rfl
  rw [e]; rfl
theorem ev_compT_ok {α : Type} {it : It} {tg : Tg} {t elt : P} {own : List (Str × Nat)} {ρ : Env} {xs : List α} {enc g : α → PyData} {q : α → Bool} (h : evI it ρ = .ok (xs.map enc)) (hl : xs.length ≤ 1000000)
    (hf : ∀ x ∈ xs, ∃ ρ1, asgT tg (enc x) (wipeS ρ (own.map (·.2))) = .ok ρ1 ∧ ev t ρ1 = .ok (.bool (q x)) ∧ (q x = true → ev elt ρ1 = .ok (g x))) : ev (.compT it tg t elt own) ρ = .ok (.list ((xs.filter q).map g)) := by
  rw [ev_compT, h, R.bind_ok, show lok (xs.map enc) = true from decide_eq_true (by rw [List.length_map]; exact hl), R.when_true]
  have e : compL (fun d => (asgT tg d (wipeS ρ (own.map (·.2)))).bind fun ρ1 => (boolR (ev t ρ1)).bind fun k => cond k ((ev elt ρ1).bind fun x => .ok (some x)) (.ok none)) (xs.map enc) = .ok ((xs.filter q).map g) := by
    clear h hl
    induction xs with
    | nil => rfl
    | cons x xs ih =>
      obtain ⟨ρ1, e1, e2, e3⟩ := hf x List.mem_cons_self
      rw [List.map_cons, compL, ih fun y hy => hf y (List.mem_cons_of_mem _ hy), e1, R.bind_ok, e2, List.filter_cons]
      cases k : q x with
      | true => rw [boolR_ok, R.bind_ok, cond_true, e3 k]; rfl
      | false => rfl
  rw [e]; rfl
theorem zipW_map {α β γ : Type} (f : α → β → γ) : ∀ (a : List α) (b : List β), List.zipWith f a b = (a.zip b).map fun p => f p.1 p.2
  | [], _ => rfl
  | _ :: _, [] => rfl
  | x :: a, y :: b => by rw [List.zipWith_cons_cons, zipW_map f a b]; rfl
theorem Rets.ok {x : R PyData} {d : PyData} (h : Rets x (fun e => e = d)) : x = .ok d := by
  obtain ⟨e, h1, rfl⟩ := h
  exact h1
end QB
namespace QL
open PySem QB
/-! #### drawing -/
theorem pick_ok (ns : List Int) (hns : ns.length ≤ 63) (k m : Int) (hk : 0 ≤ k) (hk2 : k < 1000) (hm : 0 < m) : ∃ r, f__law_pick [.list (ns.map .int), .int k, .int m] = .ok (.int r) ∧ 0 ≤ r ∧ r < m := by
  suffices h : Rets (f__law_pick [.list (ns.map .int), .int k, .int m]) (fun d => ∃ r, d = .int r ∧ 0 ≤ r ∧ r < m) by
    obtain ⟨d, h1, r, rfl, h2⟩ := h
    exact ⟨r, h1, h2⟩
  refine rets_of rfl ?_
  obtain ⟨cell, hc⟩ : ∃ cell : Int, ev (.ite (.bi .ne (.var 0) (.lst .nil)) (.bi .idx (.var 0) (.bi .mod (.var 1) (.un .len (.var 0)))) (.cst (.int 0))) ([.list (ns.map .int), .int k, .int m].map .da ++ List.replicate (7 - 3) .no) = .ok (.int cell) := by
    have e : bi2 .ne (.list (ns.map .int)) (.list []) = .ok (.bool (!decide (ns = []))) := ne_ints ns []
    by_cases h : ns = []
    · subst h; exact ⟨0, rfl⟩
    · have hl : 0 < ns.length := List.length_pos_iff.mpr h
      have h1 : 0 ≤ k % (ns.length : Int) := Int.emod_nonneg _ (by omega)
      have h2 : k % (ns.length : Int) < ns.length := Int.emod_lt_of_pos _ (by omega)
      have h3 : (k % (ns.length : Int)).toNat < ns.length := by omega
      refine ⟨ns[(k % (ns.length : Int)).toNat], ?_⟩
      simp [e, h]
      rw [show decide (0 < ns.length) = true from decide_eq_true hl]
      simp [atI_nat' (xs := ns.map PyData.int) h1 (by simpa using h2), h3]
  refine wp_seq (wp_set hc (wp_seq ?_))
  have hd : ∀ a b : Int, 0 < b → b < 2 ^ 64 → bi2 .fdiv (.int a) (.int b) = .ok (.int (a / b)) := fun a b h1 h2 => by rw [fdiv_int, decide_eq_true ⟨h1, h2⟩]; rfl
  obtain ⟨L, hL, hL1, hL2⟩ : ∃ L : Int, (if (1 : Int) > (ns.length : Int) then (1 : Int) else (ns.length : Int)) = L ∧ 0 < L ∧ L < 2 ^ 64 := by
    refine ⟨_, rfl, ?_, ?_⟩ <;> split <;> omega
  refine wp_par (sls := [.da (.int (cell / 10 ^ 18)), .da (.int (k / L))]) (by simp [hL, hd _ _ hL1 hL2]) rfl (wp_seq ?_)
  refine wp_whl (m := (k / L).toNat) (fun q ρ => ∃ r a : Int, ρ = [.da (.list (ns.map .int)), .da (.int k), .da (.int m), .da (.int cell), .da (.int r), .da (.int a), .no] ∧ 0 ≤ a ∧ a.toNat = q) ?_ ⟨_, _, rfl, Int.ediv_nonneg hk (by omega), rfl⟩ ?_
  · have : k / L ≤ k := Int.ediv_le_self _ hk
    omega
  · rintro q ρ ⟨r, a, rfl, ha, rfl⟩
    by_cases h1 : 0 < r
    · by_cases h2 : 0 < a
      · refine .inr ⟨by simp [h1, h2], wp_seq (wp_par (sls := [.da (.int (r / 840)), .da (.int (a - 1))]) (by simp [hd _ 840 (by decide) (by decide)]) rfl (wp_nil ⟨(a - 1).toNat, by omega, _, _, rfl, by omega, rfl⟩))⟩
      · refine .inl ⟨by simp [h1, h2], wp_seq (wp_ifT (by simp [h1]) (wp_seq (wp_ret (d := .int (r % 840 % m)) ?_ ⟨_, rfl, Int.emod_nonneg _ (by omega), Int.emod_lt_of_pos _ hm⟩)))⟩
        simp [hm]
    · refine .inl ⟨by simp [h1], wp_seq (wp_ifF (by simp [h1]) (wp_nil (wp_seq ?_)))⟩
      obtain ⟨D, hD, hD0, hD1⟩ : ∃ D : Int, ((cell * 31 + 6151 * (k + 1)) * 40692) % 2147483399 = D ∧ 0 ≤ D ∧ D < 2147483399 := ⟨_, rfl, Int.emod_nonneg _ (by decide), Int.emod_lt_of_pos _ (by decide)⟩
      have i31 : i64 31 = true := by decide
      have i6 : i64 6151 = true := by decide
      have i4 : i64 40692 = true := by decide
      have iD : i64 D = true := decide_eq_true ⟨by omega, by omega⟩
      refine wp_set (d := .int D) (by simp [i31, i6, i4, hD]) (wp_seq (wp_ret (d := .int ((D * D + D / 31) % 2147483629 % m)) ?_ ⟨_, rfl, Int.emod_nonneg _ (by omega), Int.emod_lt_of_pos _ hm⟩))
      simp [iD, hm, hd _ 31 (by decide) (by decide)]
end QL
/-! ### texts of signs, times, settings -/
namespace QB
open PySem
def sg (l : List Nat) : Str := ⟨l.toArray⟩
abbrev c1s (c : Nat) : PyData := .str ⟨#[c]⟩
theorem sg_inj {a b : List Nat} (h : sg a = sg b) : a = b := by
  have := congrArg (fun z : Str => z.cps.toList) h
  simpa [sg] using this
@[simp] theorem sg_cps (l : List Nat) : (sg l).cps.toList = l := by simp [sg]
@[simp] theorem sg_len (l : List Nat) : (sg l).length = l.length := by simp [sg, Str.length]
theorem days_is : (("0123456" : Str)) = sg [48, 49, 50, 51, 52, 53, 54] := by decide +kernel
theorem callers_is : (("abcdef" : Str)) = sg [97, 98, 99, 100, 101, 102] := by decide +kernel
theorem empty_is : (("" : Str)) = sg [] := by decide +kernel
theorem three_is : (("3" : Str)) = sg [51] := by decide +kernel
theorem glued_singles : ∀ (cs : List Nat) (acc : Array Nat), (cs.map fun c => (⟨#[c]⟩ : Str)).foldl (fun acc p => acc ++ (sg []).cps ++ p.cps) acc = acc ++ cs.toArray
  | [], acc => by simp
  | c :: cs, acc => by
    rw [List.map_cons, List.foldl_cons, glued_singles cs]
    simp [sg]
theorem join_singles {cs : List Nat} (h : cs.length ≤ 1000) : bi2 .join (.str "") (.list (cs.map c1s)) = .ok (.str (sg cs)) := by
  show R.of (asStrs (cs.map c1s)) _ = _
  have e : cs.map c1s = (cs.map fun c => (⟨#[c]⟩ : Str)).map .str := by rw [List.map_map]; rfl
  rw [e, asStrs_map, R.of_some]
  have hl : ((cs.map fun c => (⟨#[c]⟩ : Str)).map (·.length)).sum = cs.length := by
    rw [List.map_map]
    induction cs with
    | nil => rfl
    | cons c cs ih => rw [List.map_cons, List.sum_cons, ih (by simp at h; omega) (by rw [List.map_map]; rfl), List.length_cons]; simp [Str.length]; omega
  rw [hl, List.length_map, empty_is, sg_len, show decide (cs.length + cs.length * ([] : List Nat).length ≤ lim) = true from decide_eq_true (by have : (lim : Nat) = 1000000 := rfl; simp; omega), R.when_true]
  congr 2
  unfold PySem.Txt.join Builtin.Str.glued
  cases cs with
  | nil => rfl
  | cons c cs =>
    show (⟨List.foldl _ _ _⟩ : Str) = _
    rw [show ((c :: cs).map fun c => (⟨#[c]⟩ : Str)).drop 1 = cs.map fun c => (⟨#[c]⟩ : Str) from rfl, glued_singles]
    simp [sg]
theorem strIn_one (c : Nat) (l : List Nat) : strIn ⟨#[c]⟩ (sg l) = decide (c ∈ l) := by
  unfold strIn
  rw [PySem.StrLaws.found_one, sg_cps]
theorem day_cases {c : Nat} (h1 : 48 ≤ c) (h2 : c ≤ 54) : c = 48 ∨ c = 49 ∨ c = 50 ∨ c = 51 ∨ c = 52 ∨ c = 53 ∨ c = 54 := by omega
theorem toInt_day {c : Nat} (h1 : 48 ≤ c) (h2 : c ≤ 54) : un1 .toInt (c1s c) = .ok (.int ((c : Int) - 48)) := by
  have key : PySem.intText? (⟨#[c]⟩ : Str) = some ((c : Int) - 48) := by
    rcases day_cases h1 h2 with h | h | h | h | h | h | h <;> subst h <;> decide +kernel
  show R.when (decide ((⟨#[c]⟩ : Str).length ≤ 640)) (R.of (PySem.intText? ⟨#[c]⟩) _) = _
  rw [key]
  rfl
/-! #### times -/
structure Tm where
  l : List Nat
  b : Int
  e : Int
  deriving DecidableEq
def tmD (t : Tm) : PyData := .tuple [.str (sg t.l), .int t.b, .int t.e]
/-- a row of signs from lo to hi -/
def Row (lo hi : Nat) (l : List Nat) : Prop := l.Pairwise (· < ·) ∧ ∀ c ∈ l, lo ≤ c ∧ c ≤ hi
structure GoodT (t : Tm) : Prop where
  ne : t.l ≠ []
  row : Row 48 54 t.l
  b0 : 0 ≤ t.b
  b1 : t.b < 24
  e0 : 0 ≤ t.e
  e1 : t.e < 24
theorem row_len {lo hi : Nat} {l : List Nat} (h : Row lo hi l) : l.length ≤ hi + 1 - lo := by
  have nd : l.Nodup := h.1.imp fun z => by omega
  have sub : ∀ c ∈ l, c ∈ (List.range (hi + 1 - lo)).map (· + lo) := fun c hc => by
    have := h.2 c hc
    exact List.mem_map.mpr ⟨c - lo, List.mem_range.mpr (by omega), by omega⟩
  have := L2.nat_nodup_len l _ nd sub
  simpa using this
theorem eqv_tm (a b : Tm) : PyData.eqv (tmD a) (tmD b) = decide (a = b) := by
  obtain ⟨l, b1, e1⟩ := a
  obtain ⟨l', b2, e2⟩ := b
  unfold tmD
  show PyData.eqv (.tuple [.str (sg l), .int b1, .int e1]) (.tuple [.str (sg l'), .int b2, .int e2]) = _
  simp only [PyData.eqv, PyData.eqvAll]
  by_cases h1 : l = l'
  · subst h1
    by_cases h2 : b1 = b2 <;> by_cases h3 : e1 = e2 <;> simp [h2, h3]
  · have : sg l ≠ sg l' := fun z => h1 (sg_inj z)
    simp [h1, this]
theorem toks_tm (a b : Tm) (h : PySem.W.keyToks (tmD a) = PySem.W.keyToks (tmD b)) : a = b := by
  obtain ⟨l, b1, e1⟩ := a
  obtain ⟨l', b2, e2⟩ := b
  have := toks_keys [.inr (sg l), .inl b1, .inl e1] [.inr (sg l'), .inl b2, .inl e2] (by
    unfold tmD at h
    rw [PySem.W.keyToks, PySem.W.keyToks] at h
    exact h)
  simp only [List.cons.injEq, Sum.inr.injEq, Sum.inl.injEq] at this
  rw [sg_inj this.1, this.2.1, this.2.2.1]
abbrev ltT (a b : Tm) : Bool := PySem.W.dataLt (tmD a) (tmD b)
theorem alike_tm (a b : Tm) : PySem.W.alike (tmD a) (tmD b) = true := by
  unfold tmD
  simp [PySem.W.alike, PySem.W.alikeAll]
theorem depth_tm (t : Tm) : (tmD t).depth = 1 := rfl
theorem strict_of {us : List Tm} (h : us.Pairwise fun a b => PySem.W.dataLe false tmD a b = true) (nd : us.Nodup) : us.Pairwise fun a b => ltT a b = true := by
  refine (h.and nd).imp fun {a b} ⟨h1, h2⟩ => ?_
  cases q : ltT a b with
  | true => rfl
  | false =>
    exfalso
    have h1 : (!PySem.W.dataLt (tmD b) (tmD a)) = true := h1
    rw [Bool.not_eq_true'] at h1
    exact h2 (toks_tm a b ((PyProof.Rows.listOrd PyProof.Rows.itemOrd).total _ _ q h1))
theorem sset_tms {ts : List Tm} (hl : ts.length ≤ 4) : ∃ us : List Tm, un1 .sset (.list (ts.map tmD)) = .ok (.list (us.map tmD)) ∧ (∀ u, u ∈ us ↔ u ∈ ts) ∧ us.Pairwise (fun a b => ltT a b = true) ∧ us.length ≤ ts.length := by
  have hd : (dedupE ts).length ≤ ts.length := by
    clear hl
    induction ts with
    | nil => exact Nat.le_refl _
    | cons k l ih => rw [dedupE, List.length_cons, List.length_cons]; exact Nat.succ_le_succ (Nat.le_trans (List.length_filter_le _ _) ih)
  refine ⟨(dedupE ts).mergeSort (PySem.W.dataLe false tmD), ?_, fun u => ?_, strict_of (PySem.W.sort_pairwise (PySem.W.sortLe_total _ _ _) _) ((List.mergeSort_perm ..).nodup_iff.mpr (nodup_dedupE ts)), ?_⟩
  · show R.when (setOk (ts.map tmD)) (srtD (dedup (ts.map tmD))) = _
    have h1 : setOk (ts.map tmD) = true := by
      unfold setOk tupKeys
      simp only [Bool.and_eq_true, Bool.or_eq_true, decide_eq_true_eq, List.length_map]
      exact ⟨by omega, .inr ⟨hl, List.all_eq_true.mpr fun d hd => by obtain ⟨t, _, rfl⟩ := List.mem_map.mp hd; rfl⟩⟩
    rw [h1, R.when_true, dedup_map eqv_tm]
    unfold srtD
    have q1 : allAlike ((dedupE ts).map tmD) = true := by
      unfold allAlike
      rw [List.all_eq_true]
      intro d hd
      rw [List.all_eq_true]
      intro e he
      obtain ⟨a, _, rfl⟩ := List.mem_map.mp hd
      obtain ⟨b, _, rfl⟩ := List.mem_map.mp he
      exact alike_tm a b
    have q2 : sortable ((dedupE ts).map tmD) = true := by
      unfold sortable
      rw [Bool.or_eq_true]
      left
      rw [List.all_eq_true]
      intro d hd
      obtain ⟨a, _, rfl⟩ := List.mem_map.mp hd
      rfl
    have q3 : lok ((dedupE ts).map tmD) = true := decide_eq_true (by rw [List.length_map]; have : (lim : Nat) = 1000000 := rfl; omega)
    have q4 : ((dedupE ts).map tmD).all depOk = true := by
      rw [List.all_eq_true]
      intro d hd
      obtain ⟨a, _, rfl⟩ := List.mem_map.mp hd
      rfl
    rw [q1, q2, q3, q4]
    show R.ok _ = _
    congr 2
    unfold sortD
    exact (PySem.W.sort_maps tmD fun a _ b _ => rfl).symm
  · rw [(List.mergeSort_perm ..).mem_iff, mem_dedupE]
  · rw [(List.mergeSort_perm ..).length_eq]; exact hd
/-! #### settings -/
structure Stg where
  q : List Tm
  near : List Nat
  shut : List Nat
  again : Int
  deriving DecidableEq
def stD (s : Stg) : PyData := .tuple [.tuple (s.q.map tmD), .str (sg s.near), .str (sg s.shut), .int s.again]
structure Good (s : Stg) : Prop where
  few : s.q.length ≤ 4
  t : ∀ t ∈ s.q, GoodT t
  up : s.q.Pairwise fun a b => ltT a b = true
  near : Row 97 102 s.near
  shut : Row 97 102 s.shut
  dis : ∀ c ∈ s.near, c ∉ s.shut
  a0 : 0 ≤ s.again
  a1 : s.again ≤ 59
end QB
namespace QL
open PySem QB
theorem zip_all {α : Type} {L : α → α → Bool} : ∀ {ds : List α}, ds.Pairwise (fun a b => L a b = true) → (List.zipWith L ds (ds.drop 1)).all id = true
  | [], _ => rfl
  | [_], _ => rfl
  | a :: b :: r, h => by
    rw [List.pairwise_cons] at h
    have ih := zip_all h.2
    show (L a b && (List.zipWith L (b :: r) r).all id) = true
    rw [h.1 b List.mem_cons_self, Bool.true_and]
    exact ih
theorem rises_ok {d d1 : PyData} {ds : List PyData} {L : PyData → PyData → Bool} (h0 : seqOf d = some ds) (h1 : bi2 .sfrom d (.int 1) = .ok d1) (h2 : seqOf d1 = some (ds.drop 1)) (hl : ds.length ≤ 1000000) (hlt : ∀ x ∈ ds, ∀ y ∈ ds, bi2 .lt x y = .ok (.bool (L x y))) :
    f_rises [d] = .ok (.bool ((List.zipWith L ds (ds.drop 1)).all id)) := by
  refine Rets.ok (rets_of rfl (wp_seq (wp_ret ?_ rfl)))
  have e : ev (.comp (.zip2 (.var 0) (.bi .sfrom (.var 0) (.cst (.int 1)))) (.tp [(.nm 1), (.nm 2)]) (.bi .lt (.var 1) (.var 2)) [("one", 1), ("other", 2)]) ([d].map .da ++ List.replicate (3 - 1) .no) = .ok (.list ((ds.zip (ds.drop 1)).map fun p => .bool (L p.1 p.2))) := by
    refine ev_comp_ok (enc := fun p : PyData × PyData => .tuple [p.1, p.2]) ?_ (by rw [List.length_zip]; omega) fun p hp => ⟨_, rfl, ?_⟩
    · simp [h0, h1, h2, zipW_map]
    · have := List.of_mem_zip hp
      simp [hlt p.1 this.1 p.2 (List.mem_of_mem_drop this.2)]
  rw [ev_un, e, R.bind_ok, all_list, show ((ds.zip (ds.drop 1)).map fun p => PyData.bool (L p.1 p.2)) = (List.zipWith L ds (ds.drop 1)).map .bool by rw [zipW_map, List.map_map]; rfl, asBools_map]
  rfl
/-- signs that rise -/
theorem rises_sg {l : List Nat} (h : l.Pairwise (· < ·)) (hl : l.length ≤ 1000) : f_rises [.str (sg l)] = .ok (.bool true) := by
  have e := rises_ok (d := .str (sg l)) (d1 := .str (sg (l.drop 1))) (ds := l.map c1s) (L := fun x y => PySem.W.dataLt x y) (by rw [seqOf_str, sg_cps]) (by
      rw [sfrom_str, show sok (sg l) = true from decide_eq_true (by rw [sg_len]; have : (lim : Nat) = 1000000 := rfl; omega), R.when_true, sg_cps, sg_len]
      congr 3
      cases l with
      | nil => rfl
      | cons a r => rw [show sixN (a :: r).length 1 = 1 by unfold sixN; simp]) (by rw [seqOf_str, sg_cps, List.map_drop]) (by simp; omega) fun x hx y hy => by
    obtain ⟨a, _, rfl⟩ := List.mem_map.mp hx
    obtain ⟨b, _, rfl⟩ := List.mem_map.mp hy
    show R.when (PySem.W.alike _ _ && depOk _ && depOk _ && true) _ = _
    simp [PySem.W.alike]
  rw [e]
  congr 2
  refine zip_all (List.pairwise_map.mpr (h.imp fun {a b} hab => ?_))
  rw [PySem.W.dataLt_str]
  refine decide_eq_true (?_ : [a] < [b])
  rw [List.cons_lt_cons_iff]
  exact .inl hab
theorem is_row_ok {lo hi : Nat} {l al : List Nat} (h : Row lo hi l) (hl : l.length ≤ 1000) (ha : ∀ c, lo ≤ c → c ≤ hi → c ∈ al) : f_is_row [.str (sg l), .str (sg al)] = .ok (.bool true) := by
  refine Rets.ok (rets_of rfl (wp_seq (wp_ret ?_ rfl)))
  have e : ev (.comp (.seq (.var 0)) (.nm 2) (.bi .inn (.var 2) (.var 1)) [("sign", 2)]) ([PyData.str (sg l), .str (sg al)].map .da ++ List.replicate (3 - 2) .no) = .ok (.list (l.map fun _ => .bool true)) := by
    refine ev_comp_ok (enc := c1s) (by simp) (by omega) fun c hc => ⟨_, rfl, ?_⟩
    simp [strIn_one, ha c (h.2 c hc).1 (h.2 c hc).2]
  rw [ev_an, ev_an, ev_un, ev_un, e]
  have e2 : (l.map fun _ => PyData.bool true) = (l.map fun _ => true).map .bool := by rw [List.map_map]; rfl
  rw [R.bind_ok, all_list, e2, asBools_map]
  have e3 : (l.all fun _ => true) = true := List.all_eq_true.mpr fun _ _ => rfl
  simp [isiD, isiT, isiB, tyName, rises_sg h.1 hl, e3]
theorem is_time_ok {t : Tm} (h : GoodT t) : f_is_time [tmD t] = .ok (.bool true) := by
  have e1 := is_row_ok (al := [48, 49, 50, 51, 52, 53, 54]) h.row (by have := row_len h.row; omega) (fun c h1 h2 => by have := day_cases h1 h2; simp; omega)
  have e2 : sg t.l ≠ sg [] := fun z => h.ne (sg_inj z)
  have d0 : L2.atI [PyData.str (sg t.l), .int t.b, .int t.e] 0 = some (.str (sg t.l)) := rfl
  have d1 : L2.atI [PyData.str (sg t.l), .int t.b, .int t.e] 1 = some (.int t.b) := rfl
  have d2 : L2.atI [PyData.str (sg t.l), .int t.b, .int t.e] 2 = some (.int t.e) := rfl
  have := h.b0; have := h.b1; have := h.e0; have := h.e1
  refine Rets.ok (rets_of rfl (wp_seq (wp_ifF ?_ (wp_nil (wp_seq (wp_ret ?_ rfl))))))
  · simp [tmD, isiD, isiT, isiB, tyName, d0, days_is, empty_is, e1, e2]
  · simp [tmD, d1, d2, is_int_int, h.b0, h.e0, show t.b ≤ 23 by omega, show t.e ≤ 23 by omega]
end QL
/-! ### settings and hours -/
namespace QL
open PySem QB
theorem rises_tms {q : List Tm} (h : q.Pairwise fun a b => ltT a b = true) (hl : q.length ≤ 1000) : f_rises [.tuple (q.map tmD)] = .ok (.bool true) := by
  have e := rises_ok (d := .tuple (q.map tmD)) (d1 := .tuple ((q.map tmD).drop 1)) (ds := q.map tmD) (L := fun x y => PySem.W.dataLt x y) rfl (by
      rw [sfrom_tuple]
      congr 2
      cases q with
      | nil => rfl
      | cons a r => unfold sixN; simp) rfl (by simp; omega) fun x hx y hy => by
    obtain ⟨a, _, rfl⟩ := List.mem_map.mp hx
    obtain ⟨b, _, rfl⟩ := List.mem_map.mp hy
    show R.when (PySem.W.alike (tmD a) (tmD b) && depOk (tmD a) && depOk (tmD b) && true) _ = _
    rw [alike_tm]
    rfl
  rw [e]
  congr 2
  exact zip_all (List.pairwise_map.mpr h)
theorem row_small {l : List Nat} (h : Row 97 102 l) : l.length ≤ 6 := row_len h
theorem letter {c : Nat} (h1 : 97 ≤ c) (h2 : c ≤ 102) : c ∈ [97, 98, 99, 100, 101, 102] := by simp; omega
theorem is_settings_ok {s : Stg} (h : Good s) : f_is_settings [stD s] = .ok (.bool true) := by
  have r1 := is_row_ok (al := [97, 98, 99, 100, 101, 102]) h.near (by have := row_small h.near; omega) fun c h1 h2 => letter h1 h2
  have r2 := is_row_ok (al := [97, 98, 99, 100, 101, 102]) h.shut (by have := row_small h.shut; omega) fun c h1 h2 => letter h1 h2
  have r3 := rises_tms h.up (by have := h.few; omega)
  have hf := h.few
  have n1 := row_small h.near
  refine Rets.ok (rets_of rfl (wp_seq (wp_ifF ?_ (wp_nil (wp_seq (wp_asg (e2 := rfl) (d := stD s) rfl (wp_seq (wp_ifF ?_ (wp_nil (wp_seq (wp_ifF ?_ (wp_nil (wp_seq (wp_ret ?_ rfl))))))))))))))
  · simp [stD, isiD, isiT, isiB, tyName]
  · have e : ev (.comp (.seq (.var 1)) (.nm 5) (.fn "is_time" f_is_time (.cons (.var 5) .nil)) [("time", 5)]) [.da (stD s), .da (.tuple (s.q.map tmD)), .da (.str (sg s.near)), .da (.str (sg s.shut)), .da (.int s.again), .no, .no] = .ok (.list (s.q.map fun _ => .bool true)) :=
      ev_comp_ok (enc := tmD) rfl (by omega) fun t ht => ⟨_, rfl, by simp [is_time_ok (h.t t ht)]⟩
    have e2 : (s.q.map fun _ => PyData.bool true) = (s.q.map fun _ => true).map .bool := by rw [List.map_map]; rfl
    have e3 : (s.q.all fun _ => true) = true := List.all_eq_true.mpr fun _ _ => rfl
    have e4 : ¬ (4 : Int) < s.q.length := by omega
    show ev (.oo _ (.oo _ (.nt (.un .all (.comp _ _ _ _))))) [.da (stD s), .da (.tuple (s.q.map tmD)), .da (.str (sg s.near)), .da (.str (sg s.shut)), .da (.int s.again), .no, .no] = _
    rw [ev_oo, ev_oo, ev_nt (.un .all _), ev_un .all, e, R.bind_ok, all_list, e2, asBools_map]
    simp [isiD, isiT, isiB, tyName, e3, e4]
  · show ev (.oo _ _) [.da (stD s), .da (.tuple (s.q.map tmD)), .da (.str (sg s.near)), .da (.str (sg s.shut)), .da (.int s.again), .no, .no] = _
    simp [r3, callers_is, r1, r2]
  · have e : ev (.comp (.seq (.var 2)) (.nm 6) (.bi .inn (.var 6) (.var 3)) [("caller", 6)]) [.da (stD s), .da (.tuple (s.q.map tmD)), .da (.str (sg s.near)), .da (.str (sg s.shut)), .da (.int s.again), .no, .no] = .ok (.list (s.near.map fun _ => .bool false)) :=
      ev_comp_ok (enc := c1s) (by simp) (by omega) fun c hc => ⟨_, rfl, by simp [strIn_one, h.dis c hc]⟩
    have e2 : (s.near.map fun _ => PyData.bool false) = (s.near.map fun _ => false).map .bool := by rw [List.map_map]; rfl
    have e3 : (s.near.any fun _ => false) = false := by simp
    show ev (.an (.nt (.un .any (.comp _ _ _ _))) _) [.da (stD s), .da (.tuple (s.q.map tmD)), .da (.str (sg s.near)), .da (.str (sg s.shut)), .da (.int s.again), .no, .no] = _
    rw [ev_an, ev_nt, ev_un .any, e, R.bind_ok, any_list, e2, asBools_map]
    simp [is_int_int, h.a0, h.a1, e3]
theorem check_settings_ok {s : Stg} (h : Good s) : f_check_settings [stD s] = .ok .none :=
  Rets.ok (rets_of rfl (wp_seq (wp_ifF (by simp [is_settings_ok h]) (wp_nil (wp_nil rfl)))))
/-! #### hours -/
def manyOf (t : Tm) : Int := (t.e - t.b - 1) % 24 + 1
def hoursD (t : Tm) (c : Nat) : List Int := (List.range (manyOf t).toNat).map fun k => (((c : Int) - 48) * 24 + t.b + (k : Nat)) % 168
def hoursT (t : Tm) : List Int := t.l.flatMap (hoursD t)
theorem many_pos (t : Tm) : 1 ≤ manyOf t ∧ manyOf t ≤ 24 := by unfold manyOf; omega
theorem hoursD_len (t : Tm) (c : Nat) : (hoursD t c).length ≤ 24 := by
  have := many_pos t
  unfold hoursD
  simp; omega
theorem flat_len {α β : Type} {f : α → List β} {n : Nat} : ∀ (l : List α), (∀ x ∈ l, (f x).length ≤ n) → (l.flatMap f).length ≤ n * l.length
  | [], _ => by simp
  | a :: l, h => by
    rw [List.flatMap_cons, List.length_append, List.length_cons]
    have := h a List.mem_cons_self
    have := flat_len l fun x hx => h x (List.mem_cons_of_mem _ hx)
    rw [Nat.mul_succ]; omega
theorem hoursT_len {t : Tm} (h : GoodT t) : (hoursT t).length ≤ 168 := by
  have := flat_len t.l fun c hc => hoursD_len t c
  have := row_len h.row
  unfold hoursT; omega
theorem hours_of_ok {t : Tm} (h : GoodT t) : f_hours_of [tmD t] = .ok (.list ((hoursT t).map .int)) := by
  have hb0 := h.b0; have hb1 := h.b1; have hm := many_pos t
  have hrl := row_len h.row
  refine Rets.ok (rets_of rfl (wp_seq (wp_asg (d := tmD t) rfl rfl (wp_seq (wp_par (sls := [.da (.int (manyOf t)), .ow []]) ?_ rfl (wp_seq ?_))))))
  · show evP _ [.da (tmD t), .da (.str (sg t.l)), .da (.int t.b), .da (.int t.e), .no, .no, .no, .no, .no] = _
    simp [manyOf]
  · refine wp_for (fun i ρ => ∃ x y, ρ = [.da (tmD t), .da (.str (sg t.l)), .da (.int t.b), .da (.int t.e), .da (.int (manyOf t)), .ow (((t.l.take i).flatMap (hoursD t)).map .int), x, y, .no]) (ds := t.l.map c1s) (by
        show evI _ [.da (tmD t), .da (.str (sg t.l)), .da (.int t.b), .da (.int t.e), .da (.int (manyOf t)), .ow [], .no, .no, .no] = _
        simp) ⟨.no, .no, rfl⟩ ?_ ?_
    · rintro i d ρ hd ⟨x, y, rfl⟩
      rw [List.getElem?_map] at hd
      cases hc : t.l[i]? with
      | none => rw [hc] at hd; cases hd
      | some c =>
        rw [hc] at hd
        cases hd
        have hmem : c ∈ t.l := List.mem_of_getElem? hc
        have hr := h.row.2 c hmem
        have i24 : i64 24 = true := by decide
        refine ⟨_, rfl, wp_seq (wp_set (d := .int (((c : Int) - 48) * 24 + t.b)) ?_ (wp_seq (wp_ext (es := (hoursD t c).map .int) rfl ?_ ?_ (wp_nil ⟨.da (c1s c), .da (.int (((c : Int) - 48) * 24 + t.b)), ?_⟩))))⟩
        · show ev _ [.da (tmD t), .da (.str (sg t.l)), .da (.int t.b), .da (.int t.e), .da (.int (manyOf t)), .ow _, .da (c1s c), y, .no] = _
          simp [toInt_day hr.1 hr.2, i24]
        · show ev (.comp (.rng2 (.var 7) (.bi .add (.var 7) (.var 4))) (.nm 8) (.bi .mod (.var 8) (.glb "WEEK" (.int 168))) [("hour", 8)]) [.da (tmD t), .da (.str (sg t.l)), .da (.int t.b), .da (.int t.e), .da (.int (manyOf t)), .ow _, .da (c1s c), .da (.int (((c : Int) - 48) * 24 + t.b)), .no] = _
          have e := ev_comp_ok (it := .rng2 (.var 7) (.bi .add (.var 7) (.var 4))) (tg := .nm 8) (elt := .bi .mod (.var 8) (.glb "WEEK" (.int 168))) (own := [("hour", 8)]) (ρ := [.da (tmD t), .da (.str (sg t.l)), .da (.int t.b), .da (.int t.e), .da (.int (manyOf t)), .ow (((t.l.take i).flatMap (hoursD t)).map .int), .da (c1s c), .da (.int (((c : Int) - 48) * 24 + t.b)), .no])
            (xs := List.range (manyOf t).toNat) (enc := fun k => .int (((c : Int) - 48) * 24 + t.b + (k : Nat))) (g := fun k => .int ((((c : Int) - 48) * 24 + t.b + (k : Nat)) % 168)) (by
              simp
              rw [rngI_ok (by omega) (by omega) (by omega) (by omega)]
              congr 3
              omega) (by simp; omega) fun k _ => ⟨_, rfl, by simp⟩
          rw [e]
          congr 2
          unfold hoursD
          rw [List.map_map]
          rfl
        · have := flat_len (t.l.take i) fun c hc => hoursD_len t c
          have := hoursD_len t c
          have : (t.l.take i).length ≤ 7 := by rw [List.length_take]; omega
          simp only [List.length_map]
          omega
        · rw [List.take_add_one, hc]
          simp
    · rintro ρ ⟨x, y, rfl⟩
      rw [List.length_map, List.take_length]
      exact wp_seq (wp_frz (wp_seq (wp_ret rfl rfl)))
end QL
/-! ### hours of settings, drawn settings -/
namespace QL
open PySem QB
def hrs (q : List Tm) : List Int := sortI (q.flatMap hoursT)
theorem flat_hours_len {q : List Tm} (h : ∀ t ∈ q, GoodT t) (hq : q.length ≤ 5) : (q.flatMap hoursT).length ≤ 840 := by
  have := flat_len (f := hoursT) q fun t ht => hoursT_len (h t ht)
  omega
theorem find_hours_ok {q : List Tm} (h : ∀ t ∈ q, GoodT t) (hq : q.length ≤ 5) : f_find_hours [.tuple (q.map tmD)] = .ok (.list ((hrs q).map .int)) := by
  refine Rets.ok (rets_of rfl (wp_seq (wp_own (ds := []) rfl (wp_seq (wp_for (fun i ρ => ∃ x, ρ = [.da (.tuple (q.map tmD)), .ow (((q.take i).flatMap hoursT).map .int), x]) (ds := q.map tmD) rfl ⟨.no, rfl⟩ ?_ ?_)))))
  · rintro i d ρ hd ⟨x, rfl⟩
    rw [List.getElem?_map] at hd
    cases hc : q[i]? with
    | none => rw [hc] at hd; cases hd
    | some t =>
      rw [hc] at hd
      cases hd
      have ht := h t (List.mem_of_getElem? hc)
      refine ⟨_, rfl, wp_seq (wp_ext (es := (hoursT t).map .int) rfl ?_ ?_ (wp_nil ⟨.da (tmD t), ?_⟩))⟩
      · simp [hours_of_ok ht]
      · have h1 := flat_hours_len (q := q.take i) (fun t ht => h t (List.mem_of_mem_take ht)) (by rw [List.length_take]; omega)
        have h2 := hoursT_len ht
        simp only [List.length_map]
        omega
      · rw [List.take_add_one, hc]
        simp
  · rintro ρ ⟨x, rfl⟩
    rw [List.length_map, List.take_length]
    have h1 := flat_hours_len h hq
    refine wp_seq (wp_frz (wp_seq (wp_ret (d := .list ((hrs q).map .int)) ?_ rfl)))
    show (ev (.var 1) [.da (.tuple (q.map tmD)), .da (.list ((q.flatMap hoursT).map .int)), x]).bind (fun d => un1 .sset d) = _
    rw [ev_var]
    exact sset_ints (by omega)
theorem hush_ok {s : Stg} (h : Good s) : f__law_hush [stD s] = .ok (.list ((hrs s.q).map .int)) := by
  have hq := h.few
  refine Rets.ok (rets_of rfl (wp_seq (wp_own (ds := []) rfl (wp_seq (wp_for (fun i ρ => ∃ x2 x3 x4 x5 x6, ρ = [.da (stD s), .ow (((s.q.take i).flatMap hoursT).map .int), x2, x3, x4, x5, x6]) (ds := s.q.map tmD) rfl ⟨.no, .no, .no, .no, .no, rfl⟩ ?_ ?_)))))
  · rintro i d ρ hd ⟨x2, x3, x4, x5, x6, rfl⟩
    rw [List.getElem?_map] at hd
    cases hc : s.q[i]? with
    | none => rw [hc] at hd; cases hd
    | some t =>
      rw [hc] at hd
      cases hd
      have ht := h.t t (List.mem_of_getElem? hc)
      have hb0 := ht.b0; have hb1 := ht.b1; have he0 := ht.e0; have he1 := ht.e1; have hm := many_pos t
      have h1 := flat_hours_len (q := s.q.take i) (fun t ht => h.t t (List.mem_of_mem_take ht)) (by rw [List.length_take]; omega)
      generalize hpre : (s.q.take i).flatMap hoursT = pre at h1
      refine ⟨[.da (stD s), .ow (pre.map .int), .da (.str (sg t.l)), .da (.int t.b), .da (.int t.e), x5, x6], rfl, wp_seq (wp_for (fun j ρ => ∃ y5 y6, ρ = [.da (stD s), .ow ((pre ++ (t.l.take j).flatMap (hoursD t)).map .int), .da (.str (sg t.l)), .da (.int t.b), .da (.int t.e), y5, y6]) (ds := t.l.map c1s) (by simp) ⟨x5, x6, by simp⟩ ?_ ?_)⟩
      · rintro j d ρ hd ⟨y5, y6, rfl⟩
        rw [List.getElem?_map] at hd
        cases hcc : t.l[j]? with
        | none => rw [hcc] at hd; cases hd
        | some c =>
          rw [hcc] at hd
          cases hd
          have hr := ht.row.2 c (List.mem_of_getElem? hcc)
          have h2 : ((t.l.take j).flatMap (hoursD t)).length ≤ 168 := by
            have := flat_len (f := hoursD t) (t.l.take j) fun c hc => hoursD_len t c
            have := row_len ht.row
            have : (t.l.take j).length ≤ t.l.length := by rw [List.length_take]; omega
            omega
          generalize hp2 : (t.l.take j).flatMap (hoursD t) = p2 at h2
          have i24 : i64 24 = true := by decide
          obtain ⟨F, hF⟩ : ∃ F : Int, F = 24 * ((c : Int) - 48) + t.b := ⟨_, rfl⟩
          refine ⟨[.da (stD s), .ow ((pre ++ p2).map .int), .da (.str (sg t.l)), .da (.int t.b), .da (.int t.e), .da (c1s c), y6], rfl, wp_seq (wp_set (d := .int F) (by simp [toInt_day hr.1 hr.2, i24, hF]) (wp_seq (wp_app (ds := (pre ++ p2).map .int) (d := .int (F % 168)) rfl (by simp) (by simp; omega) (wp_seq (wp_set (d := .int (F + 1)) (by simp) (wp_seq ?_))))))⟩
          refine wp_whl (m := (manyOf t - 1).toNat) (fun m ρ => ∃ k : Nat, 1 ≤ k ∧ k ≤ (manyOf t).toNat ∧ m = (manyOf t).toNat - k ∧ ρ = [.da (stD s), .ow ((pre ++ p2 ++ (List.range k).map fun k => (F + (k : Nat)) % 168).map .int), .da (.str (sg t.l)), .da (.int t.b), .da (.int t.e), .da (c1s c), .da (.int (F + (k : Nat)))]) (by omega) ⟨1, by omega, by omega, by omega, by simp⟩ ?_
          rintro m ρ ⟨k, hk1, hk2, rfl, rfl⟩
          by_cases hk : k = (manyOf t).toNat
          · refine .inl ⟨?_, wp_nil ⟨.da (c1s c), .da (.int (F + (k : Nat))), ?_⟩⟩
            · have : (F + (k : Int)) % 24 = t.e := by unfold manyOf at hk; omega
              simp [this]
            · rw [List.take_add_one, hcc, List.flatMap_append, hp2]
              have : (List.range k).map (fun k => (F + ((k : Nat) : Int)) % 168) = hoursD t c := by
                unfold hoursD
                rw [← hk]
                congr 1
                funext q
                congr 1
                omega
              rw [this]
              simp
          · refine .inr ⟨?_, wp_seq (wp_app (ds := (pre ++ p2 ++ (List.range k).map fun k => (F + (k : Nat)) % 168).map .int) (d := .int ((F + (k : Nat)) % 168)) rfl (by simp) (by simp; omega) (wp_seq (wp_set (d := .int (F + (k : Nat) + 1)) (by simp) (wp_nil ⟨(manyOf t).toNat - (k + 1), by omega, k + 1, by omega, by omega, rfl, ?_⟩))))⟩
            · have : ¬ (F + (k : Int)) % 24 = t.e := by unfold manyOf at hk hk2; omega
              simp [this]
            · simp [List.range_succ]
              omega
      · rintro ρ ⟨y5, y6, rfl⟩
        refine wp_nil ⟨.da (.str (sg t.l)), .da (.int t.b), .da (.int t.e), y5, y6, ?_⟩
        rw [List.length_map, List.take_length, ← hpre, List.take_add_one, hc]
        simp [hoursT]
  · rintro ρ ⟨x2, x3, x4, x5, x6, rfl⟩
    rw [List.length_map, List.take_length]
    have h1 := flat_hours_len h.t (by omega)
    refine wp_seq (wp_frz (wp_seq (wp_ret (d := .list ((hrs s.q).map .int)) ?_ rfl)))
    show (ev (.var 1) [.da (stD s), .da (.list ((s.q.flatMap hoursT).map .int)), x2, x3, x4, x5, x6]).bind (fun d => un1 .sset d) = _
    rw [ev_var]
    exact sset_ints (by omega)
end QL
/-! ### _law_form -/
namespace QL
open PySem QB
def pk (ns : List Int) (k m : Int) : Int := match f__law_pick [.list (ns.map .int), .int k, .int m] with
  | .ok (.int r) => r
  | _ => 0
theorem pk_ok {ns : List Int} (hns : ns.length ≤ 63) {k m : Int} (hk : 0 ≤ k) (hk2 : k < 1000) (hm : 0 < m) : f__law_pick [.list (ns.map .int), .int k, .int m] = .ok (.int (pk ns k m)) ∧ 0 ≤ pk ns k m ∧ pk ns k m < m := by
  obtain ⟨r, h1, h2⟩ := pick_ok ns hns k m hk hk2 hm
  have : pk ns k m = r := by unfold pk; rw [h1]
  rw [this]
  exact ⟨h1, h2⟩
theorem row_filter {lo n : Nat} (q : Nat → Bool) : Row lo (lo + n - 1) (((List.range n).filter q).map (lo + ·)) := by
  refine ⟨?_, fun c hc => ?_⟩
  · rw [List.pairwise_map]
    exact (List.pairwise_lt_range.filter q).imp fun h => by omega
  · obtain ⟨k, hk, rfl⟩ := List.mem_map.mp hc
    have := List.mem_range.mp (List.mem_filter.mp hk).1
    omega
theorem range_days : (List.range 7).map (48 + ·) = [48, 49, 50, 51, 52, 53, 54] := by decide
theorem range_call : (List.range 6).map (97 + ·) = [97, 98, 99, 100, 101, 102] := by decide
theorem idx_call {k : Nat} (h : k < 6) : bi2 .idx (.str "abcdef") (.int (k : Int)) = .ok (c1s (97 + k)) := by
  have : k = 0 ∨ k = 1 ∨ k = 2 ∨ k = 3 ∨ k = 4 ∨ k = 5 := by omega
  rw [callers_is]
  rcases this with h | h | h | h | h | h <;> subst h <;> rfl
theorem rng_lit (n : Nat) (hn : n ≤ 1000) : rngI 0 (n : Int) = .ok ((List.range n).map fun k => .int ((k : Nat) : Int)) := by
  rw [rngI_ok (by omega) (by omega) (by omega) (by omega)]
  simp
/-- 'abcdef' cut down -/
theorem near_ok {ρ : QB.Env} {ks : List Int} {v : Int} (hk : ks.length = 6) (h8 : ρ[8]? = some (.da (.list (ks.map .int)))) (hl : ρ.length = 11) :
    ev (.bi .join (.cst (.str "")) (.compT (.rng1 (.cst (.int 6))) (.nm 3) (.bi .eq (.bi .idx (.var 8) (.var 3)) (.cst (.int v))) (.bi .idx (.cst (.str "abcdef")) (.var 3)) [("k", 3)])) ρ = .ok (.str (sg (((List.range 6).filter fun k => decide (ks.getD k 0 = v)).map (97 + ·)))) := by
  have e : ev (.compT (.rng1 (.cst (.int 6))) (.nm 3) (.bi .eq (.bi .idx (.var 8) (.var 3)) (.cst (.int v))) (.bi .idx (.cst (.str "abcdef")) (.var 3)) [("k", 3)]) ρ = .ok (.list (((List.range 6).filter fun k => decide (ks.getD k 0 = v)).map fun k => c1s (97 + k))) := by
    refine ev_compT_ok (enc := fun k => .int ((k : Nat) : Int)) (by rw [evI_rng1]; exact rng_lit 6 (by decide)) (by simp) fun k hk' => ?_
    have hk6 := List.mem_range.mp hk'
    refine ⟨_, rfl, ?_, fun _ => ?_⟩
    · have e8 : ((ρ.set 3 .no).set 3 (.da (.int ((k : Nat) : Int))))[8]? = some (.da (.list (ks.map .int))) := by
        rw [List.getElem?_set_ne (by decide), List.getElem?_set_ne (by decide)]; exact h8
      have e3 : ((ρ.set 3 .no).set 3 (.da (.int ((k : Nat) : Int))))[3]? = some (.da (.int ((k : Nat) : Int))) := by
        rw [List.getElem?_set_self (by simp [hl])]
      have ea : L2.atI (ks.map PyData.int) ((k : Nat) : Int) = some (.int (ks.getD k 0)) := by
        rw [atI_nat' (by omega) (by simp; omega)]
        simp [List.getD_eq_getElem?_getD]
        rw [List.getElem?_eq_getElem (by omega)]
        simp
      simp only [List.map_cons, List.map_nil, wipeS_cons, wipeS_nil, ev_bi, ev_var, ev_cst, e8, e3, get_da, R.bind_ok, rcv_idx, rcv_eq, R.when_true, idx_list, ea, R.of_some, eq_int]
    · have e3 : ((ρ.set 3 .no).set 3 (.da (.int ((k : Nat) : Int))))[3]? = some (.da (.int ((k : Nat) : Int))) := by
        rw [List.getElem?_set_self (by simp [hl])]
      simp only [List.map_cons, List.map_nil, wipeS_cons, wipeS_nil, ev_bi, ev_var, ev_cst, e3, get_da, R.bind_ok, rcv_idx, R.when_true, idx_call hk6]
  rw [ev_bi, ev_cst, R.bind_ok, rcv_join, R.when_true, e, R.bind_ok]
  have := join_singles (cs := (((List.range 6).filter fun k => decide (ks.getD k 0 = v)).map (97 + ·))) (by
    rw [List.length_map]
    exact Nat.le_trans (List.length_filter_le _ _) (by simp))
  rw [List.map_map] at this
  exact this
theorem form_ok4 {ns : List Int} (hns : ns.length ≤ 63) {at_ : Int} (h0 : 0 ≤ at_) (h1 : at_ ≤ 900) : ∃ s, f__law_form [.list (ns.map .int), .int at_] = .ok (stD s) ∧ Good s ∧ s.q.length ≤ 3 ∧ s.again ∈ ([0, 5, 15, 59] : List Int) := by
  suffices h : Rets (f__law_form [.list (ns.map .int), .int at_]) (fun d => ∃ s, d = stD s ∧ Good s ∧ s.q.length ≤ 3 ∧ s.again ∈ ([0, 5, 15, 59] : List Int)) by
    obtain ⟨d, h1, s, rfl, h2⟩ := h
    exact ⟨s, h1, h2⟩
  have pkk : ∀ k m : Int, 0 ≤ k → k < 1000 → 0 < m → f__law_pick [.list (ns.map .int), .int k, .int m] = .ok (.int (pk ns k m)) := fun k m a b c => (pk_ok hns a b c).1
  have pkb : ∀ k m : Int, 0 ≤ k → k < 1000 → 0 < m → 0 ≤ pk ns k m ∧ pk ns k m < m := fun k m a b c => (pk_ok hns a b c).2
  have b4 := pkb at_ 4 h0 (by omega) (by decide)
  refine rets_of rfl (wp_seq (wp_own (ds := []) rfl (wp_seq ?_)))
  refine wp_for (fun i ρ => ∃ (ts : List Tm) (x3 x4 x6 x7 : Sl), ρ = [.da (.list (ns.map .int)), .da (.int at_), .ow (ts.map tmD), x3, x4, .no, x6, x7, .no, .no, .no] ∧ (∀ t ∈ ts, GoodT t) ∧ ts.length = i)
    (ds := (List.range (pk ns at_ 4).toNat).map fun k => .int ((k : Nat) : Int)) ?_ ⟨[], .no, .no, .no, .no, rfl, (fun t q => nomatch q), rfl⟩ ?_ ?_
  · show evI (.rng1 (.fn "_law_pick" f__law_pick (.cons (.var 0) (.cons (.var 1) (.cons (.cst (.int 4)) .nil))))) [.da (.list (ns.map .int)), .da (.int at_), .ow [], .no, .no, .no, .no, .no, .no, .no, .no] = _
    simp [pkk at_ 4 h0 (by omega) (by decide)]
    have := rng_lit (pk ns at_ 4).toNat (by omega)
    rwa [show (((pk ns at_ 4).toNat : Nat) : Int) = pk ns at_ 4 by omega] at this
  · rintro i d ρ hd ⟨ts, x3, x4, x6, x7, rfl, hg, hlen⟩
    rw [List.getElem?_map] at hd
    cases hc : (List.range (pk ns at_ 4).toNat)[i]? with
    | none => rw [hc] at hd; cases hd
    | some k =>
    rw [hc] at hd
    cases hd
    have hk : k < (pk ns at_ 4).toNat := List.mem_range.mp (List.mem_of_getElem? hc)
    have hk3 : k < 4 := by omega
    have hik : i < (pk ns at_ 4).toNat := by
      have := (List.getElem?_eq_some_iff.mp hc).1
      simpa using this
    have i10 : i64 10 = true := by decide
    refine ⟨_, rfl, ?_⟩
    let q : Nat → Bool := fun c => decide (0 < pk ns (at_ + 1 + 10 * (k : Int) + (c : Int)) 3)
    have edays : ev (.bi .join (.cst (.str "")) (.compT (.seq (.cst (.str "0123456"))) (.nm 5) (.bi .gt (.fn "_law_pick" f__law_pick (.cons (.var 0) (.cons (.bi .add (.bi .add (.bi .add (.var 1) (.cst (.int 1))) (.bi .mul (.cst (.int 10)) (.var 3))) (.un .toInt (.var 5))) (.cons (.cst (.int 3)) .nil)))) (.cst (.int 0))) (.var 5) [("sign", 5)])) [.da (.list (ns.map .int)), .da (.int at_), .ow (ts.map tmD), .da (.int (k : Nat)), x4, .no, x6, x7, .no, .no, .no] = .ok (.str (sg (((List.range 7).filter q).map (48 + ·)))) := by
      rw [ev_bi, ev_cst, R.bind_ok, rcv_join, R.when_true]
      have e := ev_compT_ok (it := .seq (.cst (.str "0123456"))) (tg := .nm 5) (t := .bi .gt (.fn "_law_pick" f__law_pick (.cons (.var 0) (.cons (.bi .add (.bi .add (.bi .add (.var 1) (.cst (.int 1))) (.bi .mul (.cst (.int 10)) (.var 3))) (.un .toInt (.var 5))) (.cons (.cst (.int 3)) .nil)))) (.cst (.int 0))) (elt := .var 5) (own := [("sign", 5)])
        (ρ := [.da (.list (ns.map .int)), .da (.int at_), .ow (ts.map tmD), .da (.int (k : Nat)), x4, .no, x6, x7, .no, .no, .no]) (xs := List.range 7) (enc := fun c => c1s (48 + c)) (g := fun c => c1s (48 + c)) (q := q)
        (by rw [evI_seq, ev_cst, R.bind_ok, days_is, seqOf_str, sg_cps, ← range_days, List.map_map]; rfl) (by simp) fun c hc => by
          have hc7 := List.mem_range.mp hc
          refine ⟨_, rfl, ?_, fun _ => by simp⟩
          have et := toInt_day (c := 48 + c) (by omega) (by omega)
          simp [et, i10]
          rw [show ((48 : Int) + (c : Int) - 48) = (c : Int) by omega, pkk (at_ + 1 + 10 * (k : Int) + (c : Int)) 3 (by omega) (by omega) (by decide)]
          simp [q]
      rw [e, R.bind_ok]
      have j := join_singles (cs := (((List.range 7).filter q).map (48 + ·))) (by
        rw [List.length_map]
        exact Nat.le_trans (List.length_filter_le _ _) (by simp))
      rw [List.map_map] at j
      exact j
    have p8 := pkb (at_ + 8 + 10 * (k : Int)) 24 (by omega) (by omega) (by decide)
    have p9 := pkb (at_ + 9 + 10 * (k : Int)) 24 (by omega) (by omega) (by decide)
    have e8 := pkk (at_ + 8 + 10 * (k : Int)) 24 (by omega) (by omega) (by decide)
    have e9 := pkk (at_ + 9 + 10 * (k : Int)) 24 (by omega) (by omega) (by decide)
    have e10 := pkk (at_ + 10 + 10 * (k : Int)) 5 (by omega) (by omega) (by decide)
    have last : ∀ (dl : List Nat) (b : Int), Row 48 54 dl → 0 ≤ b → b < 24 → Wp (ex (.seq (.app 2 (.tup (.cons (.ite (.bi .ne (.var 4) (.cst (.str ""))) (.var 4) (.cst (.str "3"))) (.cons (.var 6) (.cons (.var 7) .nil))))) .nil) [.da (.list (ns.map .int)), .da (.int at_), .ow (ts.map tmD), .da (.int (k : Nat)), .da (.str (sg dl)), .no, .da (.int b), .da (.int (pk ns (at_ + 9 + 10 * (k : Int)) 24)), .no, .no, .no])
        (fun ρ => ∃ (ts : List Tm) (x3 x4 x6 x7 : Sl), ρ = [.da (.list (ns.map .int)), .da (.int at_), .ow (ts.map tmD), x3, x4, .no, x6, x7, .no, .no, .no] ∧ (∀ t ∈ ts, GoodT t) ∧ ts.length = i + 1) (fun d => ∃ s, d = stD s ∧ Good s ∧ s.q.length ≤ 3 ∧ s.again ∈ ([0, 5, 15, 59] : List Int)) := by
      intro dl b hr hb0 hb1
      let dl' : List Nat := if dl = [] then [51] else dl
      have hg' : GoodT ⟨dl', b, pk ns (at_ + 9 + 10 * (k : Int)) 24⟩ := by
        refine ⟨?_, ?_, hb0, hb1, p9.1, p9.2⟩
        · show (if dl = [] then [51] else dl) ≠ []
          split
          · decide
          · assumption
        · show Row 48 54 (if dl = [] then [51] else dl)
          split
          · exact ⟨by simp, by simp⟩
          · exact hr
      refine wp_seq (wp_app (ds := ts.map tmD) (d := tmD ⟨dl', b, pk ns (at_ + 9 + 10 * (k : Int)) 24⟩) rfl ?_ (by rw [List.length_map]; omega) (wp_nil ⟨ts ++ [⟨dl', b, pk ns (at_ + 9 + 10 * (k : Int)) 24⟩], .da (.int (k : Nat)), .da (.str (sg dl)), .da (.int b), .da (.int (pk ns (at_ + 9 + 10 * (k : Int)) 24)), by simp, ?_, by simp [hlen]⟩))
      · by_cases hd : dl = []
        · simp [tmD, dl', hd, empty_is, three_is]
        · have : sg dl ≠ sg [] := fun z => hd (sg_inj z)
          simp [tmD, dl', hd, empty_is, this]
      · intro t ht
        rcases List.mem_append.mp ht with q | q
        · exact hg t q
        · rw [List.mem_singleton.mp q]; exact hg'
    refine wp_seq (wp_set edays (wp_seq (wp_par (sls := [.da (.int (pk ns (at_ + 8 + 10 * (k : Int)) 24)), .da (.int (pk ns (at_ + 9 + 10 * (k : Int)) 24))]) ?_ rfl (wp_seq (wp_if (k := decide (pk ns (at_ + 10 + 10 * (k : Int)) 5 = 0)) ?_ (fun _ => wp_seq (wp_par (sls := [.da (.str "0123456"), .da (.int (pk ns (at_ + 9 + 10 * (k : Int)) 24))]) (by simp) rfl (wp_nil ?_))) (fun _ => wp_nil ?_))))))
    · simp [i10, e8, e9]
    · simp [i10, e10]
    · have := last [48, 49, 50, 51, 52, 53, 54] (pk ns (at_ + 9 + 10 * (k : Int)) 24) ⟨by decide, by decide⟩ p9.1 p9.2
      rw [← days_is] at this
      exact this
    · exact last _ _ (row_filter (lo := 48) (n := 7) q) p8.1 p8.2
  · rintro ρ ⟨ts, x3, x4, x6, x7, rfl, hg, hlen⟩
    have hl3 : ts.length ≤ 3 := by rw [hlen, List.length_map, List.length_range]; omega
    obtain ⟨us, u1, u2, u3, u4⟩ := sset_tms (ts := ts) (by omega)
    let ks : List Int := (List.range 6).map fun k => pk ns (at_ + 35 + (k : Nat)) 4
    have p41 := pkb (at_ + 41) 4 (by omega) (by omega) (by decide)
    have e41 := pkk (at_ + 41) 4 (by omega) (by omega) (by decide)
    refine wp_seq (wp_frz (wp_seq (wp_set (d := .tuple (us.map tmD)) (by simp [frzS, u1]) (wp_seq (wp_set (d := .list (ks.map .int)) ?_ (wp_seq (wp_set (near_ok (ks := ks) (v := 0) (by simp [ks]) rfl rfl) (wp_seq (wp_set (near_ok (ks := ks) (v := 1) (by simp [ks]) rfl rfl) (wp_seq (wp_frz (wp_seq (wp_ret (d := stD ⟨us, ((List.range 6).filter fun k => decide (ks.getD k 0 = 0)).map (97 + ·), ((List.range 6).filter fun k => decide (ks.getD k 0 = 1)).map (97 + ·), [0, 5, 15, 59].getD (pk ns (at_ + 41) 4).toNat 0⟩) ?_ ⟨_, rfl, ?_, ?_, ?_⟩)))))))))))))
    · have e := ev_comp_ok (it := .rng1 (.cst (.int 6))) (tg := .nm 3) (elt := .fn "_law_pick" f__law_pick (.cons (.var 0) (.cons (.bi .add (.bi .add (.var 1) (.cst (.int 35))) (.var 3)) (.cons (.cst (.int 4)) .nil)))) (own := [("k", 3)]) (ρ := [.da (.list (ns.map .int)), .da (.int at_), .da (.tuple (us.map tmD)), x3, x4, .no, x6, x7, .no, .no, .no]) (xs := List.range 6) (enc := fun k => .int ((k : Nat) : Int)) (g := fun k => .int (pk ns (at_ + 35 + (k : Nat)) 4))
        (by rw [evI_rng1]; exact rng_lit 6 (by decide)) (by simp) fun k hk => ⟨_, rfl, by
          have := List.mem_range.mp hk
          simp [pkk (at_ + 35 + (k : Nat)) 4 (by omega) (by omega) (by decide)]⟩
      have : ks.map PyData.int = (List.range 6).map fun k => .int (pk ns (at_ + 35 + (k : Nat)) 4) := by simp [ks]
      rw [this]
      exact e
    · have : pk ns (at_ + 41) 4 = 0 ∨ pk ns (at_ + 41) 4 = 1 ∨ pk ns (at_ + 41) 4 = 2 ∨ pk ns (at_ + 41) 4 = 3 := by omega
      rcases this with z | z | z | z <;> simp [frzS, stD, e41, z, L2.atI, L2.ixN]
    · refine ⟨by show us.length ≤ 4; omega, fun t ht => hg t ((u2 t).mp ht), u3, row_filter (lo := 97) (n := 6) _, row_filter (lo := 97) (n := 6) _, fun c hc hc' => ?_, ?_, ?_⟩
      · obtain ⟨a, ha, rfl⟩ := List.mem_map.mp hc
        obtain ⟨b, hb, e⟩ := List.mem_map.mp hc'
        have : b = a := by omega
        subst this
        have h1 := of_decide_eq_true (List.mem_filter.mp ha).2
        have h2 := of_decide_eq_true (List.mem_filter.mp hb).2
        omega
      · have : pk ns (at_ + 41) 4 = 0 ∨ pk ns (at_ + 41) 4 = 1 ∨ pk ns (at_ + 41) 4 = 2 ∨ pk ns (at_ + 41) 4 = 3 := by omega
        show 0 ≤ [0, 5, 15, 59].getD (pk ns (at_ + 41) 4).toNat (0 : Int)
        rcases this with z | z | z | z <;> rw [z] <;> decide
      · have : pk ns (at_ + 41) 4 = 0 ∨ pk ns (at_ + 41) 4 = 1 ∨ pk ns (at_ + 41) 4 = 2 ∨ pk ns (at_ + 41) 4 = 3 := by omega
        show [0, 5, 15, 59].getD (pk ns (at_ + 41) 4).toNat (0 : Int) ≤ 59
        rcases this with z | z | z | z <;> rw [z] <;> decide
    · show us.length ≤ 3
      omega
    · have : pk ns (at_ + 41) 4 = 0 ∨ pk ns (at_ + 41) 4 = 1 ∨ pk ns (at_ + 41) 4 = 2 ∨ pk ns (at_ + 41) 4 = 3 := by omega
      show [0, 5, 15, 59].getD (pk ns (at_ + 41) 4).toNat (0 : Int) ∈ ([0, 5, 15, 59] : List Int)
      rcases this with z | z | z | z <;> rw [z] <;> decide
theorem form_ok {ns : List Int} (hns : ns.length ≤ 63) {at_ : Int} (h0 : 0 ≤ at_) (h1 : at_ ≤ 900) : ∃ s, f__law_form [.list (ns.map .int), .int at_] = .ok (stD s) ∧ Good s ∧ s.q.length ≤ 3 := by
  obtain ⟨s, e, hs, h3, _⟩ := form_ok4 hns h0 h1
  exact ⟨s, e, hs, h3⟩
end QL
/-! ### calls -/
namespace QB
open PySem
structure Cl where
  m : Int
  c : Nat
  deriving DecidableEq
def clD (k : Cl) : PyData := .tuple [.int k.m, c1s k.c]
structure GoodC (cs : List Cl) : Prop where
  few : cs.length ≤ 12
  m : ∀ k ∈ cs, 0 ≤ k.m ∧ k.m < 10080
  c : ∀ k ∈ cs, 97 ≤ k.c ∧ k.c ≤ 102
  up : cs.Pairwise fun a b => a.m < b.m
/-- an earlier call of the same caller, not longer ago than a -/
def cag (cs : List Cl) (n : Nat) (k : Cl) (a : Int) : Bool := (cs.take n).any fun b => decide (b.c = k.c) && decide (k.m - b.m ≤ a)
def ringS (s : Stg) (cs : List Cl) (n : Nat) (k : Cl) (sh : Int) : Bool := decide (k.c ∈ s.near) || ((!decide ((k.m + sh) % 10080 / 60 ∈ QL.hrs s.q) || cag cs n k s.again) && !decide (k.c ∈ s.shut))
@[simp] theorem one_eq {a b : Nat} : ((⟨#[a]⟩ : Str) = ⟨#[b]⟩) ↔ a = b := by
  constructor
  · intro h
    have := congrArg (fun z : Str => z.cps.toList) h
    simpa using this
  · rintro rfl; rfl
theorem at_map {α : Type} {f : α → PyData} {xs : List α} {n : Nat} {x : α} (h : xs[n]? = some x) : L2.atI (xs.map f) (n : Int) = some (f x) := by
  have hn := (List.getElem?_eq_some_iff.mp h).1
  rw [atI_nat' (by omega) (by simp; omega)]
  simp [h]
theorem six_nat {n len : Nat} (h : n ≤ len) : sixN len (n : Int) = n := by
  unfold sixN
  rw [if_neg (by omega)]
  simp; omega
@[simp] theorem sto_tuple (ds : List PyData) (i : Int) : bi2 .sto (.tuple ds) (.int i) = .ok (.tuple (ds.take (sixN ds.length i))) := rfl
@[simp] theorem sto_list (ds : List PyData) (i : Int) : bi2 .sto (.list ds) (.int i) = .ok (.list (ds.take (sixN ds.length i))) := rfl
end QB
namespace QL
open PySem QB
theorem is_caller_ok {c : Nat} (h1 : 97 ≤ c) (h2 : c ≤ 102) : f_is_caller [c1s c] = .ok (.bool true) := by
  refine Rets.ok (rets_of rfl (wp_seq (wp_ret ?_ rfl)))
  have e1 : (⟨#[c]⟩ : Str).length = 1 := rfl
  have e2 : sok ⟨#[c]⟩ = true := rfl
  simp [isiD, isiT, isiB, tyName, e1, e2, callers_is, strIn_one]
  omega
theorem is_call_ok {k : Cl} (h1 : 0 ≤ k.m) (h2 : k.m < 10080) (h3 : 97 ≤ k.c) (h4 : k.c ≤ 102) : f_is_call [clD k] = .ok (.bool true) := by
  have d0 : L2.atI [PyData.int k.m, c1s k.c] 0 = some (.int k.m) := rfl
  have d1 : L2.atI [PyData.int k.m, c1s k.c] 1 = some (c1s k.c) := rfl
  have i1 : i64 168 = true := by decide
  refine Rets.ok (rets_of rfl (wp_seq (wp_ifF (by simp [clD, isiD, isiT, isiB, tyName]) (wp_nil (wp_seq (wp_ret ?_ rfl))))))
  have c := is_caller_ok h3 h4
  simp [clD, d0, d1, i1, is_int_int, h1, show k.m ≤ 10079 by omega, c]
theorem rises_nums {l : List Int} (h : l.Pairwise (· < ·)) (hl : l.length ≤ 1000) : f_rises [.list (l.map .int)] = .ok (.bool true) := by
  have e := rises_ok (d := .list (l.map .int)) (d1 := .list ((l.map PyData.int).drop 1)) (ds := l.map .int) (L := fun x y => PySem.W.dataLt x y) rfl (by
      rw [sfrom_list]
      congr 2
      cases l with
      | nil => rfl
      | cons a r => unfold sixN; simp) rfl (by simp; omega) fun x hx y hy => by
    obtain ⟨a, _, rfl⟩ := List.mem_map.mp hx
    obtain ⟨b, _, rfl⟩ := List.mem_map.mp hy
    rw [lt_int, PySem.W.dataLt_int]
  rw [e]
  congr 2
  refine zip_all (List.pairwise_map.mpr (h.imp fun {a b} hab => ?_))
  rw [PySem.W.dataLt_int]
  exact decide_eq_true hab
theorem are_calls_ok {cs : List Cl} (h : GoodC cs) : f_are_calls [.tuple (cs.map clD)] = .ok (.bool true) := by
  have hf := h.few
  have e4 : ¬ (12 : Int) < cs.length := by omega
  refine Rets.ok (rets_of rfl (wp_seq (wp_ifF (by simp [isiD, isiT, isiB, tyName, e4]) (wp_nil (wp_seq (wp_ret ?_ rfl))))))
  have e : ev (.comp (.seq (.var 0)) (.nm 1) (.fn "is_call" f_is_call (.cons (.var 1) .nil)) [("call", 1)]) [.da (.tuple (cs.map clD)), .no] = .ok (.list (cs.map fun _ => .bool true)) :=
    ev_comp_ok (enc := clD) rfl (by omega) fun k hk => ⟨_, rfl, by simp [is_call_ok (h.m k hk).1 (h.m k hk).2 (h.c k hk).1 (h.c k hk).2]⟩
  have e' : ev (.comp (.seq (.var 0)) (.nm 1) (.bi .idx (.var 1) (.cst (.int 0))) [("call", 1)]) [.da (.tuple (cs.map clD)), .no] = .ok (.list (cs.map fun k => .int k.m)) :=
    ev_comp_ok (enc := clD) rfl (by omega) fun k hk => ⟨_, rfl, by
      have d0 : L2.atI [PyData.int k.m, c1s k.c] 0 = some (.int k.m) := rfl
      simp [clD, d0]⟩
  have e2 : (cs.map fun _ => PyData.bool true) = (cs.map fun _ => true).map .bool := by rw [List.map_map]; rfl
  have e3 : (cs.all fun _ => true) = true := List.all_eq_true.mpr fun _ _ => rfl
  have e5 : (cs.map fun k => PyData.int k.m) = (cs.map (·.m)).map .int := by rw [List.map_map]; rfl
  have r := rises_nums (l := cs.map (·.m)) (List.pairwise_map.mpr h.up) (by simp; omega)
  show ev (.an (.un .all (.comp _ _ _ _)) (.fn _ _ (.cons (.comp _ _ _ _) .nil))) [.da (.tuple (cs.map clD)), .no] = _
  rw [ev_an, ev_un, e, R.bind_ok, all_list, e2, asBools_map, ev_fn, evs_cons, e', e5]
  simp [e3]
  simpa using r
theorem check_calls_ok {s : Stg} (hs : Good s) {cs : List Cl} (h : GoodC cs) : f_check_calls [stD s, .tuple (cs.map clD)] = .ok .none :=
  Rets.ok (rets_of rfl (wp_seq (wp_evl (d := .none) (by simp [check_settings_ok hs]) (wp_seq (wp_ifF (by simp [are_calls_ok h]) (wp_nil (wp_nil rfl)))))))
theorem st_at (s : Stg) : L2.atI [PyData.tuple (s.q.map tmD), .str (sg s.near), .str (sg s.shut), .int s.again] 0 = some (.tuple (s.q.map tmD)) ∧ L2.atI [PyData.tuple (s.q.map tmD), .str (sg s.near), .str (sg s.shut), .int s.again] 1 = some (.str (sg s.near)) ∧
    L2.atI [PyData.tuple (s.q.map tmD), .str (sg s.near), .str (sg s.shut), .int s.again] 2 = some (.str (sg s.shut)) ∧ L2.atI [PyData.tuple (s.q.map tmD), .str (sg s.near), .str (sg s.shut), .int s.again] 3 = some (.int s.again) := ⟨rfl, rfl, rfl, rfl⟩
def kindS (s : Stg) (c : Nat) : Str := if c ∈ s.near then "friend" else if c ∈ s.shut then "blocked" else "other"
theorem find_kind_ok (s : Stg) (c : Nat) : f_find_kind [stD s, c1s c] = .ok (.str (kindS s c)) := by
  obtain ⟨_, a1, a2, _⟩ := st_at s
  refine Rets.ok (rets_of rfl (wp_seq (wp_if (k := decide (c ∈ s.near)) (by simp [stD, a1, strIn_one]) (fun h => wp_seq (wp_ret rfl ?_)) (fun h => wp_nil (wp_seq (wp_ret (d := .str (if c ∈ s.shut then "blocked" else "other")) ?_ ?_))))))
  · unfold kindS; rw [if_pos (of_decide_eq_true h)]
  · simp [stD, a2, strIn_one]
    by_cases h : c ∈ s.shut <;> simp [h]
  · unfold kindS; rw [if_neg (of_decide_eq_false h)]
theorem comes_again_ok {cs : List Cl} {n : Nat} {k : Cl} {a : Int} (hk : cs[n]? = some k) (hl : cs.length ≤ 1000) : f_comes_again [.tuple (cs.map clD), .int (n : Int), .int a] = .ok (.bool (cag cs n k a)) := by
  have hn := (List.getElem?_eq_some_iff.mp hk).1
  refine Rets.ok (rets_of rfl (wp_seq (wp_asg (d := clD k) (by simp [at_map hk]) rfl (wp_seq (wp_ret ?_ rfl)))))
  have e : ev (.comp (.seq (.bi .sto (.var 0) (.var 1))) (.tp [(.nm 5), (.nm 6)]) (.an (.bi .eq (.var 6) (.var 4)) (.bi .le (.bi .sub (.var 3) (.var 5)) (.var 2))) [("before", 5), ("other", 6)]) [.da (.tuple (cs.map clD)), .da (.int (n : Int)), .da (.int a), .da (.int k.m), .da (c1s k.c), .no, .no] = .ok (.list ((cs.take n).map fun b => .bool (decide (b.c = k.c) && decide (k.m - b.m ≤ a)))) :=
    ev_comp_ok (xs := cs.take n) (enc := clD) (by simp [six_nat (Nat.le_of_lt hn), List.map_take]) (by rw [List.length_take]; omega) fun b hb => ⟨_, rfl, by
      simp
      cases decide (b.c = k.c) <;> simp⟩
  have e2 : ((cs.take n).map fun b => PyData.bool (decide (b.c = k.c) && decide (k.m - b.m ≤ a))) = ((cs.take n).map fun b => decide (b.c = k.c) && decide (k.m - b.m ≤ a)).map .bool := by rw [List.map_map]; rfl
  show (ev (.comp _ _ _ _) [.da (.tuple (cs.map clD)), .da (.int (n : Int)), .da (.int a), .da (.int k.m), .da (c1s k.c), .no, .no]).bind _ = _
  rw [e, R.bind_ok, any_list, e2, asBools_map, R.of_some]
  congr 2
  unfold cag
  rw [List.any_map]
  rfl
def reaS (s : Stg) (cs : List Cl) (n : Nat) (k : Cl) : Str := if k.c ∈ s.near then "friend" else if k.c ∈ s.shut then "blocked" else if k.m / 60 ∈ hrs s.q then (if cag cs n k s.again = true then "again" else "quiet") else "free"
def reaL (s : Stg) (cs : List Cl) : List Str := (List.range cs.length).map fun n => reaS s cs n (cs.getD n ⟨0, 0⟩)
theorem str_in2 {a b c : Str} : bi2 .inn (.str a) (.tuple [.str b, .str c]) = .ok (.bool (decide (b = a) || decide (c = a))) := by
  show R.when (depOk _) _ = _
  rw [depOk_str, R.when_true]
  unfold inD
  simp [PyData.eqv]
  by_cases h1 : b = a <;> by_cases h2 : c = a <;> simp [h1, h2]
theorem s_fb : ("friend" : Str) ≠ "blocked" := by decide +kernel
theorem s_bf : ("blocked" : Str) ≠ "friend" := by decide +kernel
theorem s_ob : ("blocked" : Str) ≠ "other" := by decide +kernel
theorem s_of : ("friend" : Str) ≠ "other" := by decide +kernel
theorem s_qf : ("quiet" : Str) ≠ "friend" := by decide +kernel
theorem s_qb : ("quiet" : Str) ≠ "blocked" := by decide +kernel
theorem s_qfr : ("quiet" : Str) ≠ "free" := by decide +kernel
theorem s_qa : ("quiet" : Str) ≠ "again" := by decide +kernel
theorem s_bfr : ("blocked" : Str) ≠ "free" := by decide +kernel
theorem s_ba : ("blocked" : Str) ≠ "again" := by decide +kernel
theorem s_bq : ("blocked" : Str) ≠ "quiet" := by decide +kernel
theorem find_reasons_ok {s : Stg} (hs : Good s) {cs : List Cl} (hl : cs.length ≤ 1000) : f_find_reasons [stD s, .tuple (cs.map clD)] = .ok (.list ((reaL s cs).map .str)) := by
  obtain ⟨a0, a1, a2, a3⟩ := st_at s
  have hfh := find_hours_ok hs.t (by have := hs.few; omega)
  refine Rets.ok (rets_of rfl (wp_seq (wp_par (sls := [.da (.list ((hrs s.q).map .int)), .ow []]) (by simp [stD, a0, hfh]) rfl (wp_seq (wp_for (fun i ρ => ∃ x4 x5 x6 x7, ρ = [.da (stD s), .da (.tuple (cs.map clD)), .da (.list ((hrs s.q).map .int)), .ow (((reaL s cs).take i).map .str), x4, x5, x6, x7])
    (ds := List.zipWith (fun i x => .tuple [.int ((i : Nat) : Int), x]) (List.range (cs.map clD).length) (cs.map clD)) rfl ⟨.no, .no, .no, .no, rfl⟩ ?_ ?_)))))
  · rintro i d ρ hd ⟨x4, x5, x6, x7, rfl⟩
    obtain ⟨k, hk, rfl⟩ : ∃ k, cs[i]? = some k ∧ d = .tuple [.int (i : Int), clD k] := by
      rw [List.getElem?_zipWith] at hd
      cases hk : cs[i]? with
      | none => rw [List.getElem?_map, hk] at hd; simp at hd
      | some k =>
        have hi := (List.getElem?_eq_some_iff.mp hk).1
        rw [List.getElem?_map, hk, List.getElem?_range (by simpa using hi)] at hd
        exact ⟨k, rfl, (Option.some.inj hd).symm⟩
    have hi := (List.getElem?_eq_some_iff.mp hk).1
    have hrl : (reaL s cs).take (i + 1) = (reaL s cs).take i ++ [reaS s cs i k] := by
      rw [List.take_add_one]
      congr 1
      unfold reaL
      rw [List.getElem?_map, List.getElem?_range hi]
      simp [List.getD_eq_getElem?_getD, hk]
    have fin : ∀ r : Str, reaS s cs i k = r → (fun ρ : QB.Env => ∃ x4 x5 x6 x7 : Sl, ρ = [.da (stD s), .da (.tuple (cs.map clD)), .da (.list ((hrs s.q).map .int)), .ow (((reaL s cs).take (i + 1)).map .str), x4, x5, x6, x7]) ([.da (stD s), .da (.tuple (cs.map clD)), .da (.list ((hrs s.q).map .int)), .ow (((reaL s cs).take i).map .str ++ [.str r]), .da (.int (i : Int)), .da (.int k.m), .da (c1s k.c), .da (.str (kindS s k.c))] : QB.Env) := fun r hr => by
      rw [hrl, hr]
      exact ⟨_, _, _, _, by rw [List.map_append]; rfl⟩
    have hlen : (((reaL s cs).take i).map PyData.str).length ≤ 1000000 := by
      have : (reaL s cs).length = cs.length := by unfold reaL; simp
      simp; omega
    refine ⟨[.da (stD s), .da (.tuple (cs.map clD)), .da (.list ((hrs s.q).map .int)), .ow (((reaL s cs).take i).map .str), .da (.int (i : Int)), .da (.int k.m), .da (c1s k.c), x7], rfl, wp_seq (wp_set (d := .str (kindS s k.c)) (by simp [find_kind_ok]) (wp_seq (wp_if (k := decide (("blocked" : Str) = kindS s k.c) || decide (("friend" : Str) = kindS s k.c)) (by simp [str_in2]) (fun h => wp_seq (wp_app (ds := ((reaL s cs).take i).map .str) (d := .str (kindS s k.c)) rfl rfl hlen (wp_nil (wp_nil (fin _ ?_))))) (fun h => wp_seq (wp_if (k := !decide (k.m / 60 ∈ hrs s.q)) (by simp) (fun h2 => wp_seq (wp_app (ds := ((reaL s cs).take i).map .str) (d := .str "free") rfl rfl hlen (wp_nil (wp_nil (wp_nil (fin _ ?_)))))) (fun h2 => wp_seq (wp_app (ds := ((reaL s cs).take i).map .str) (d := .str (if cag cs i k s.again = true then "again" else "quiet")) rfl ?_ hlen (wp_nil (wp_nil (wp_nil (fin _ ?_)))))))))))⟩
    · unfold reaS kindS at *
      by_cases z1 : k.c ∈ s.near
      · simp [z1]
      · by_cases z2 : k.c ∈ s.shut
        · simp [z1, z2]
        · simp [z1, z2, s_ob, s_of] at h
    · unfold reaS
      unfold kindS at h
      by_cases z1 : k.c ∈ s.near
      · simp [z1] at h
      · by_cases z2 : k.c ∈ s.shut
        · simp [z1, z2] at h
        · simp at h2
          simp [z1, z2, h2]
    · have := comes_again_ok (a := s.again) hk hl
      simp [stD, a3, this]
      cases cag cs i k s.again <;> simp
    · unfold reaS
      unfold kindS at h
      by_cases z1 : k.c ∈ s.near
      · simp [z1] at h
      · by_cases z2 : k.c ∈ s.shut
        · simp [z1, z2] at h
        · simp at h2
          simp [z1, z2, h2]
  · rintro ρ ⟨x4, x5, x6, x7, rfl⟩
    have el : (reaL s cs).take (List.zipWith (fun i x => PyData.tuple [.int ((i : Nat) : Int), x]) (List.range (cs.map clD).length) (cs.map clD)).length = reaL s cs := List.take_of_length_le (by unfold reaL; simp)
    rw [el]
    exact wp_seq (wp_frz (wp_seq (wp_ret rfl rfl)))
def silB (s : Stg) (cs : List Cl) (n : Nat) : Bool := decide (("blocked" : Str) = reaS s cs n (cs.getD n ⟨0, 0⟩)) || decide (("quiet" : Str) = reaS s cs n (cs.getD n ⟨0, 0⟩))
theorem find_silent_ok {s : Stg} (hs : Good s) {cs : List Cl} (hl : cs.length ≤ 1000) : f_find_silent [stD s, .tuple (cs.map clD)] = .ok (.list (((List.range cs.length).filter (silB s cs)).map fun n => .int ((n : Nat) : Int))) := by
  refine Rets.ok (rets_of rfl (wp_seq (wp_ret ?_ rfl)))
  refine ev_compT_ok (xs := List.range cs.length) (enc := fun n => .tuple [.int ((n : Nat) : Int), .str (reaS s cs n (cs.getD n ⟨0, 0⟩))]) (g := fun n => .int ((n : Nat) : Int)) (q := silB s cs) ?_ (by simp; omega) fun n hn => ⟨_, rfl, ?_, fun _ => rfl⟩
  · simp [find_reasons_ok hs hl]
    unfold reaL
    rw [List.map_map, List.length_map, List.length_range, List.zipWith_map_right]
    simp [List.zipWith_self]
  · simp [str_in2, silB]
theorem sil_ring (s : Stg) (cs : List Cl) (n : Nat) (hm : ∀ k ∈ cs, 0 ≤ k.m ∧ k.m < 10080) (hn : n < cs.length) : silB s cs n = !ringS s cs n (cs.getD n ⟨0, 0⟩) 0 := by
  have hk : cs.getD n ⟨0, 0⟩ ∈ cs := by
    rw [List.getD_eq_getElem?_getD, List.getElem?_eq_getElem hn]
    exact List.getElem_mem hn
  have := hm _ hk
  unfold silB
  generalize cs.getD n ⟨0, 0⟩ = k at this
  unfold ringS reaS
  rw [show (k.m + 0) % 10080 / 60 = k.m / 60 by omega]
  by_cases z1 : k.c ∈ s.near
  · simp [z1, s_bf, s_qf]
  · by_cases z2 : k.c ∈ s.shut
    · simp [z1, z2]
    · by_cases z3 : k.m / 60 ∈ hrs s.q
      · cases z4 : cag cs n k s.again
        · simp [z1, z2, z3]
        · simp [z1, z2, z3, s_ba, s_qa]
      · simp [z1, z2, z3, s_bfr, s_qfr]
def ringL (s : Stg) (cs : List Cl) (sh : Int) : List Int := ((List.range cs.length).filter fun n => ringS s cs n (cs.getD n ⟨0, 0⟩) sh).map fun n => ((n : Nat) : Int)
theorem find_ringing_ok {s : Stg} (hs : Good s) {cs : List Cl} (h : GoodC cs) : f_find_ringing [stD s, .tuple (cs.map clD)] = .ok (.list ((ringL s cs 0).map .int)) := by
  have hl := h.few
  let sl : List Int := ((List.range cs.length).filter (silB s cs)).map fun n => ((n : Nat) : Int)
  have e1 : ev (.fn "find_silent" f_find_silent (.cons (.var 0) (.cons (.var 1) .nil))) [.da (stD s), .da (.tuple (cs.map clD)), .no, .no] = .ok (.list (sl.map .int)) := by
    simp [find_silent_ok hs (show cs.length ≤ 1000 by omega), sl]
  refine Rets.ok (rets_of rfl (wp_seq (wp_set e1 (wp_seq (wp_ret ?_ rfl)))))
  have e := ev_compT_ok (it := .rng1 (.un .len (.var 1))) (tg := .nm 3) (t := .bi .nin (.var 3) (.var 2)) (elt := .var 3) (own := [("number", 3)]) (ρ := [.da (stD s), .da (.tuple (cs.map clD)), .da (.list (sl.map .int)), .no]) (xs := List.range cs.length) (enc := fun n => .int ((n : Nat) : Int)) (g := fun n => .int ((n : Nat) : Int)) (q := fun n => ringS s cs n (cs.getD n ⟨0, 0⟩) 0) (by
      simp
      exact rng_lit cs.length (by omega)) (by simp; omega) fun n hn => ⟨_, rfl, ?_, fun _ => rfl⟩
  · refine e.trans ?_
    unfold ringL
    rw [List.map_map]
    rfl
  · have hn' := List.mem_range.mp hn
    simp
    have hm : (((n : Nat) : Int) ∈ sl) ↔ silB s cs n = true := by
      simp only [sl, List.mem_map, List.mem_filter, List.mem_range]
      constructor
      · rintro ⟨a, ⟨_, ha⟩, e⟩
        rw [show n = a by omega]; exact ha
      · intro q
        exact ⟨n, ⟨hn', q⟩, rfl⟩
    rw [sil_ring s cs n h.m hn'] at hm
    cases q : ringS s cs n (cs.getD n ⟨0, 0⟩) 0 with
    | true => simp [q] at hm; simp [hm]
    | false => simp [q] at hm; simp [hm]
theorem ringing_ok {s : Stg} (hs : Good s) {cs : List Cl} (h : GoodC cs) : f_ringing [stD s, .tuple (cs.map clD)] = .ok (.list ((ringL s cs 0).map .int)) :=
  Rets.ok (rets_of rfl (wp_seq (wp_evl (d := .none) (by simp [check_calls_ok hs h]) (wp_seq (wp_ret (by simp [find_ringing_ok hs h]) rfl)))))
end QL
/-! ### _law_row, _law_rings -/
namespace QL
open PySem QB
theorem ne_nil (ds : List PyData) : bi2 .ne (.list ds) (.list []) = .ok (.bool (!ds.isEmpty)) := by
  show R.when (depOk _ || depOk _) _ = _
  rw [show depOk (.list []) = true from rfl, Bool.or_true, R.when_true]
  cases ds <;> simp [PyData.eqv, PyData.eqvAll]
theorem hrs_range {q : List Tm} {x : Int} (h : x ∈ hrs q) : 0 ≤ x ∧ x < 168 := by
  have h := mem_sortI.mp h
  obtain ⟨t, _, h⟩ := List.mem_flatMap.mp h
  obtain ⟨c, _, h⟩ := List.mem_flatMap.mp h
  unfold hoursD at h
  obtain ⟨k, _, rfl⟩ := List.mem_map.mp h
  omega
theorem hrs_len {q : List Tm} (h : ∀ t ∈ q, GoodT t) (hq : q.length ≤ 5) : (hrs q).length ≤ 840 := Nat.le_trans (sortI_len _) (flat_hours_len h hq)
theorem idx_eight {k : Nat} (h : k < 8) : ∃ c, bi2 .idx (.str "abcdefab") (.int (k : Int)) = .ok (c1s c) ∧ 97 ≤ c ∧ c ≤ 102 := by
  have e : (("abcdefab" : Str)) = sg [97, 98, 99, 100, 101, 102, 97, 98] := by decide +kernel
  have : k = 0 ∨ k = 1 ∨ k = 2 ∨ k = 3 ∨ k = 4 ∨ k = 5 ∨ k = 6 ∨ k = 7 := by omega
  rw [e]
  rcases this with h | h | h | h | h | h | h | h <;> subst h <;> exact ⟨_, rfl, by decide, by decide⟩
theorem idx_nine {k : Nat} (h : k < 9) : ∃ g : Int, L2.atI [PyData.int 1, .int 4, .int 5, .int 6, .int 15, .int 16, .int 59, .int 60, .int 200] (k : Int) = some (.int g) ∧ 1 ≤ g ∧ g ≤ 200 := by
  have : k = 0 ∨ k = 1 ∨ k = 2 ∨ k = 3 ∨ k = 4 ∨ k = 5 ∨ k = 6 ∨ k = 7 ∨ k = 8 := by omega
  rcases this with h | h | h | h | h | h | h | h | h <;> subst h <;> exact ⟨_, rfl, by decide, by decide⟩
theorem row_ok {ns : List Int} (hns : ns.length ≤ 63) {at_ most : Int} (h0 : 0 ≤ at_) (h1 : at_ ≤ 900) (hm0 : 0 ≤ most) (hm1 : most ≤ 12) {s : Stg} (hs : Good s) : ∃ cs, f__law_row [.list (ns.map .int), .int at_, stD s, .int most] = .ok (.tuple (cs.map clD)) ∧ GoodC cs := by
  suffices h : Rets (f__law_row [.list (ns.map .int), .int at_, stD s, .int most]) (fun d => ∃ cs, d = .tuple (cs.map clD) ∧ GoodC cs) by
    obtain ⟨d, h1, cs, rfl, h2⟩ := h
    exact ⟨cs, h1, h2⟩
  have pkk : ∀ k m : Int, 0 ≤ k → k < 1000 → 0 < m → f__law_pick [.list (ns.map .int), .int k, .int m] = .ok (.int (pk ns k m)) := fun k m a b c => (pk_ok hns a b c).1
  have pkb : ∀ k m : Int, 0 ≤ k → k < 1000 → 0 < m → 0 ≤ pk ns k m ∧ pk ns k m < m := fun k m a b c => (pk_ok hns a b c).2
  have hlen := hrs_len hs.t (by have := hs.few; omega)
  have ed : bi2 .add (.list ((hrs s.q).map .int)) (.list [.int 10, .int 100]) = .ok (.list ((hrs s.q ++ [10, 100]).map .int)) := by
    show R.when (decide (((hrs s.q).map PyData.int).length + 2 ≤ lim)) _ = _
    rw [decide_eq_true (by have : (lim : Nat) = 1000000 := rfl; simp; omega)]
    simp
  obtain ⟨hl, hhl⟩ : ∃ hl, hl = hrs s.q ++ [10, 100] := ⟨_, rfl⟩
  have hr : ∀ x ∈ hl, 0 ≤ x ∧ x < 168 := fun x hx => by
    rw [hhl] at hx
    rcases List.mem_append.mp hx with q | q
    · exact hrs_range q
    · simp at q; omega
  have hl1 : 0 < hl.length := by rw [hhl]; simp
  have hl2 : hl.length ≤ 842 := by rw [hhl]; simp; omega
  rw [← hhl] at ed
  have b0 := pkb at_ (hl.length : Int) h0 (by omega) (by omega)
  have e0 := pkk at_ (hl.length : Int) h0 (by omega) (by omega)
  have b1 := pkb (at_ + 1) 70 (by omega) (by omega) (by omega)
  have e1 := pkk (at_ + 1) 70 (by omega) (by omega) (by omega)
  obtain ⟨x, hx, hx0⟩ : ∃ x : Int, L2.atI (hl.map PyData.int) (pk ns at_ (hl.length : Int)) = some (.int x) ∧ 0 ≤ x ∧ x < 168 := by
    have hj : (pk ns at_ (hl.length : Int)).toNat < hl.length := by omega
    refine ⟨hl[(pk ns at_ (hl.length : Int)).toNat], ?_, hr _ (List.getElem_mem hj)⟩
    rw [atI_nat' (by omega) (by simp; omega)]
    simp [hj]
  have i60 : i64 60 = true := by decide
  have i2 : i64 2 = true := by decide
  obtain ⟨M, hM, hM0, hM1⟩ : ∃ M : Int, (if pk ns (at_ + 1) 70 < 60 * x then 60 * x - pk ns (at_ + 1) 70 else 0) = M ∧ 0 ≤ M ∧ M < 10080 := by
    refine ⟨_, rfl, ?_, ?_⟩ <;> split <;> omega
  have b2 := pkb (at_ + 2) (most + 1) (by omega) (by omega) (by omega)
  have e2 := pkk (at_ + 2) (most + 1) (by omega) (by omega) (by omega)
  refine rets_of rfl (wp_seq (wp_set (d := .list (hl.map .int)) (by simp [hush_ok hs, ed]) (wp_seq (wp_set (d := .int M) (by simp [e0, hx, i60, e1, hM]) (wp_seq (wp_own (ds := []) rfl (wp_seq (wp_for (fun i ρ => ∃ (cs : List Cl) (m : Int) (x7 : Sl), ρ = [.da (.list (ns.map .int)), .da (.int at_), .da (stD s), .da (.int most), .da (.list (hl.map .int)), .da (.int m), .ow (cs.map clD), x7, .no] ∧ cs.length = i ∧ 0 ≤ m ∧ (∀ k ∈ cs, 0 ≤ k.m ∧ k.m < m ∧ 97 ≤ k.c ∧ k.c ≤ 102) ∧ cs.Pairwise fun a b => a.m < b.m)
    (ds := (List.range (pk ns (at_ + 2) (most + 1)).toNat).map fun k => .int ((k : Nat) : Int)) ?_ ⟨[], M, .no, rfl, rfl, hM0, (fun k q => nomatch q), List.Pairwise.nil⟩ ?_ ?_))))))))
  · show evI (.rng1 (.fn "_law_pick" f__law_pick (.cons (.var 0) (.cons (.bi .add (.var 1) (.cst (.int 2))) (.cons (.bi .add (.var 3) (.cst (.int 1))) .nil))))) [.da (.list (ns.map .int)), .da (.int at_), .da (stD s), .da (.int most), .da (.list (hl.map .int)), .da (.int M), .ow [], .no, .no] = _
    simp [e2]
    have := rng_lit (pk ns (at_ + 2) (most + 1)).toNat (by omega)
    rwa [show (((pk ns (at_ + 2) (most + 1)).toNat : Nat) : Int) = pk ns (at_ + 2) (most + 1) by omega] at this
  · rintro i d ρ hd ⟨cs, m, x7, rfl, hci, hm0', hall, hup⟩
    obtain ⟨k, hk, rfl⟩ : ∃ k : Nat, k < 12 ∧ d = .int (k : Int) := by
      obtain ⟨k, hk, rfl⟩ := List.mem_map.mp (List.mem_of_getElem? hd)
      exact ⟨k, by have := List.mem_range.mp hk; omega, rfl⟩
    have hi : i < 13 := by
      have := (List.getElem?_eq_some_iff.mp hd).1
      simp at this; omega
    have b3 := pkb (at_ + 3 + 2 * (k : Int)) 8 (by omega) (by omega) (by omega)
    have e3 := pkk (at_ + 3 + 2 * (k : Int)) 8 (by omega) (by omega) (by omega)
    have b4 := pkb (at_ + 4 + 2 * (k : Int)) 9 (by omega) (by omega) (by omega)
    have e4 := pkk (at_ + 4 + 2 * (k : Int)) 9 (by omega) (by omega) (by omega)
    obtain ⟨c, hc, hc1, hc2⟩ := idx_eight (k := (pk ns (at_ + 3 + 2 * (k : Int)) 8).toNat) (by omega)
    rw [show (((pk ns (at_ + 3 + 2 * (k : Int)) 8).toNat : Nat) : Int) = pk ns (at_ + 3 + 2 * (k : Int)) 8 by omega] at hc
    obtain ⟨g, hg, hg1, hg2⟩ := idx_nine (k := (pk ns (at_ + 4 + 2 * (k : Int)) 9).toNat) (by omega)
    rw [show (((pk ns (at_ + 4 + 2 * (k : Int)) 9).toNat : Nat) : Int) = pk ns (at_ + 4 + 2 * (k : Int)) 9 by omega] at hg
    refine ⟨_, rfl, wp_seq (wp_app (ds := cs.map clD) (d := clD ⟨m, c⟩) rfl (by simp [i2, e3, hc, clD]) (by simp; omega) (wp_seq (wp_set (d := .int (m + g)) (by simp [i2, e4, hg]) (wp_nil ⟨cs ++ [⟨m, c⟩], m + g, .da (.int (k : Int)), by simp, by simp [hci], by omega, fun q hq => ?_, ?_⟩))))⟩
    · rcases List.mem_append.mp hq with z | z
      · have := hall q z; omega
      · rw [List.mem_singleton.mp z]; exact ⟨hm0', by show m < m + g; omega, hc1, hc2⟩
    · rw [List.pairwise_append]
      refine ⟨hup, by simp, fun a ha b hb => ?_⟩
      rw [List.mem_singleton.mp hb]
      exact (hall a ha).2.1
  · rintro ρ ⟨cs, m, x7, rfl, hci, hm0', hall, hup⟩
    have hl12 : cs.length ≤ 12 := by rw [hci, List.length_map, List.length_range]; omega
    refine wp_seq (wp_frz (wp_seq (wp_ret (d := .tuple ((cs.filter fun k => decide (k.m < 10080)).map clD)) ?_ ⟨_, rfl, ?_⟩)))
    · have e := ev_compT_ok (it := .seq (.var 6)) (tg := .nm 8) (t := .bi .lt (.bi .idx (.var 8) (.cst (.int 0))) (.cst (.int 10080))) (elt := .var 8) (own := [("one", 8)]) (ρ := [.da (.list (ns.map .int)), .da (.int at_), .da (stD s), .da (.int most), .da (.list (hl.map .int)), .da (.int m), .da (.list (cs.map clD)), x7, .no]) (xs := cs) (enc := clD) (g := clD) (q := fun k => decide (k.m < 10080)) rfl (by omega) fun k _ => ⟨_, rfl, by
          have d0 : L2.atI [PyData.int k.m, c1s k.c] 0 = some (.int k.m) := rfl
          simp [clD, d0], fun _ => rfl⟩
      show (ev (.compT _ _ _ _ _) [.da (.list (ns.map .int)), .da (.int at_), .da (stD s), .da (.int most), .da (.list (hl.map .int)), .da (.int m), .da (.list (cs.map clD)), x7, .no]).bind _ = _
      rw [e]
      rfl
    · refine ⟨Nat.le_trans (List.length_filter_le _ _) hl12, fun k hk => ?_, fun k hk => ?_, hup.filter _⟩
      · have h1 := List.mem_filter.mp hk
        exact ⟨(hall k h1.1).1, of_decide_eq_true h1.2⟩
      · have h1 := List.mem_filter.mp hk
        exact (hall k h1.1).2.2
theorem near_empty {cs : List Cl} {n : Nat} {k : Cl} {a : Int} : (((cs.take n).filter fun b => decide (b.c = k.c) && decide (k.m ≤ b.m + a)).map fun b => PyData.int b.m).isEmpty = !cag cs n k a := by
  unfold cag
  rw [List.isEmpty_map]
  induction cs.take n with
  | nil => rfl
  | cons b r ih =>
    rw [List.filter_cons, List.any_cons]
    have e : decide (k.m ≤ b.m + a) = decide (k.m - b.m ≤ a) := by
      by_cases h : k.m - b.m ≤ a
      · rw [decide_eq_true h, decide_eq_true (by omega)]
      · rw [decide_eq_false h, decide_eq_false (by omega)]
    rw [e]
    cases q : decide (b.c = k.c) && decide (k.m - b.m ≤ a) with
    | true => simp
    | false => simp [ih]
theorem law_rings_ok {s : Stg} (hs : Good s) {cs : List Cl} (hl : cs.length ≤ 1000) (sh : Int) : f__law_rings [stD s, .tuple (cs.map clD), .int sh] = .ok (.list ((ringL s cs sh).map .int)) := by
  obtain ⟨a0, a1, a2, a3⟩ := st_at s
  refine Rets.ok (rets_of rfl (wp_seq (wp_par (sls := [.ow [], .da (.list ((hrs s.q).map .int))]) (by simp [hush_ok hs]) rfl (wp_seq (wp_for (fun i ρ => ∃ x5 x6 x7 x8 x9 x10 x11, ρ = [.da (stD s), .da (.tuple (cs.map clD)), .da (.int sh), .ow ((((List.range i).filter fun n => ringS s cs n (cs.getD n ⟨0, 0⟩) sh).map fun n => ((n : Nat) : Int)).map .int), .da (.list ((hrs s.q).map .int)), x5, x6, x7, x8, x9, x10, x11])
    (ds := (List.range cs.length).map fun k => .int ((k : Nat) : Int)) ?_ ⟨.no, .no, .no, .no, .no, .no, .no, rfl⟩ ?_ ?_)))))
  · show evI (.rng1 (.un .len (.var 1))) [.da (stD s), .da (.tuple (cs.map clD)), .da (.int sh), .ow [], .da (.list ((hrs s.q).map .int)), .no, .no, .no, .no, .no, .no, .no] = _
    simp
    exact rng_lit cs.length (by omega)
  · rintro i d ρ hd ⟨x5, x6, x7, x8, x9, x10, x11, rfl⟩
    have hi : i < cs.length := by
      have := (List.getElem?_eq_some_iff.mp hd).1
      simpa using this
    have hdi : d = .int (i : Int) := by
      rw [List.getElem?_map, List.getElem?_range hi] at hd
      exact (Option.some.inj hd).symm
    subst hdi
    have hk : cs[i]? = some (cs.getD i ⟨0, 0⟩) := by rw [List.getD_eq_getElem?_getD, List.getElem?_eq_getElem hi]; rfl
    generalize hkk : cs.getD i ⟨0, 0⟩ = k at hk
    have hlen : ((((List.range i).filter fun n => ringS s cs n (cs.getD n ⟨0, 0⟩) sh).map fun n => ((n : Nat) : Int)).map PyData.int).length ≤ 1000000 := by
      have := List.length_filter_le (fun n => ringS s cs n (cs.getD n ⟨0, 0⟩) sh) (List.range i)
      simp only [List.length_map]
      simp only [List.length_range] at this
      omega
    have enear := ev_compT_ok (it := .seq (.bi .sto (.var 1) (.var 5))) (tg := .tp [(.nm 9), (.nm 10)]) (t := .an (.bi .eq (.var 10) (.var 7)) (.bi .ge (.bi .add (.var 9) (.bi .idx (.var 0) (.cst (.int 3)))) (.var 6))) (elt := .var 9) (own := [("before", 9), ("other", 10)])
      (ρ := [.da (stD s), .da (.tuple (cs.map clD)), .da (.int sh), .ow ((((List.range i).filter fun n => ringS s cs n (cs.getD n ⟨0, 0⟩) sh).map fun n => ((n : Nat) : Int)).map .int), .da (.list ((hrs s.q).map .int)), .da (.int (i : Int)), .da (.int k.m), .da (c1s k.c), x8, x9, x10, x11]) (xs := cs.take i) (enc := clD) (g := fun b => .int b.m) (q := fun b => decide (b.c = k.c) && decide (k.m ≤ b.m + s.again))
      (by simp [six_nat (Nat.le_of_lt hi), List.map_take]) (by rw [List.length_take]; omega) fun b _ => ⟨_, rfl, by
        simp [stD, a3]
        cases decide (b.c = k.c) <;> simp, fun _ => rfl⟩
    refine ⟨_, rfl, wp_seq (wp_asg (d := clD k) (by simp [at_map hk]) rfl (wp_seq (wp_set (by exact enear) (wp_seq (wp_set (d := .bool (!decide ((k.m + sh) % 10080 / 60 ∈ hrs s.q) || cag cs i k s.again)) ?_ (wp_seq (wp_if (k := ringS s cs i k sh) ?_ (fun h => wp_seq (wp_app (ds := ((((List.range i).filter fun n => ringS s cs n (cs.getD n ⟨0, 0⟩) sh).map fun n => ((n : Nat) : Int)).map .int)) (d := .int (i : Int)) rfl rfl hlen (wp_nil (wp_nil ?_)))) (fun h => wp_nil (wp_nil ?_)))))))))⟩
    · have nn := ne_nil (((cs.take i).filter fun b => decide (b.c = k.c) && decide (k.m ≤ b.m + s.again)).map fun b => PyData.int b.m)
      rw [near_empty] at nn
      simp [nn]
      cases decide ((k.m + sh) % 10080 / 60 ∈ hrs s.q) <;> simp
    · simp [stD, a1, a2, strIn_one, ringS]
      by_cases z1 : k.c ∈ s.near
      · simp [z1]
      · by_cases z2 : k.c ∈ s.shut
        · simp [z1, z2]
        · cases q : (!decide ((k.m + sh) % 10080 / 60 ∈ hrs s.q) || cag cs i k s.again) <;> simp [z1, z2]
    · have e : ((List.range (i + 1)).filter fun n => ringS s cs n (cs.getD n ⟨0, 0⟩) sh) = ((List.range i).filter fun n => ringS s cs n (cs.getD n ⟨0, 0⟩) sh) ++ [i] := by
        rw [List.range_succ, List.filter_append]
        congr 1
        rw [List.filter_cons, hkk, h]; rfl
      rw [e, List.map_append, List.map_append]
      exact ⟨_, _, _, _, _, _, _, rfl⟩
    · have e : ((List.range (i + 1)).filter fun n => ringS s cs n (cs.getD n ⟨0, 0⟩) sh) = ((List.range i).filter fun n => ringS s cs n (cs.getD n ⟨0, 0⟩) sh) := by
        rw [List.range_succ, List.filter_append]
        have : ([i].filter fun n => ringS s cs n (cs.getD n ⟨0, 0⟩) sh) = [] := by rw [List.filter_cons, hkk, h]; rfl
        rw [this, List.append_nil]
      rw [e]
      exact ⟨_, _, _, _, _, _, _, rfl⟩
  · rintro ρ ⟨x5, x6, x7, x8, x9, x10, x11, rfl⟩
    rw [List.length_map, List.length_range]
    exact wp_seq (wp_frz (wp_seq (wp_ret rfl rfl)))
end QL
/-! ### more rules: terms put together, comprehensions under all, any, join; encodings -/
namespace QB
open PySem
section
variable {ρ : Env} {a b c : P} {d e f : PyData} {it : It} {tg : Tg} {elt t : P} {own : List (Str × Nat)} {r : R PyData}
theorem un_ok {u : Un} (h : ev a ρ = .ok d) (h2 : un1 u d = r) : ev (.un u a) ρ = r := by rw [ev_un, h, R.bind_ok, h2]
theorem bi_ok {o : Bi} (h : ev a ρ = .ok d) (h2 : ev b ρ = .ok e) (hr : rcv o d = true) (h3 : bi2 o d e = r) : ev (.bi o a b) ρ = r := by rw [ev_bi, h, R.bind_ok, hr, R.when_true, h2, R.bind_ok, h3]
theorem nt_ok {x : Bool} (h : ev a ρ = .ok (.bool x)) : ev (.nt a) ρ = .ok (.bool (!x)) := by rw [ev_nt, h]; rfl
theorem an_ok {x y : Bool} (h : ev a ρ = .ok (.bool x)) (h2 : x = true → ev b ρ = .ok (.bool y)) : ev (.an a b) ρ = .ok (.bool (x && y)) := by
  rw [ev_an, h, boolR_ok, R.bind_ok]
  cases x with
  | true => exact h2 rfl
  | false => rfl
theorem oo_ok {x y : Bool} (h : ev a ρ = .ok (.bool x)) (h2 : x = false → ev b ρ = .ok (.bool y)) : ev (.oo a b) ρ = .ok (.bool (x || y)) := by
  rw [ev_oo, h, boolR_ok, R.bind_ok]
  cases x with
  | true => rfl
  | false => exact h2 rfl
theorem ite_ok {x : Bool} (h : ev c ρ = .ok (.bool x)) (h1 : x = true → ev a ρ = .ok d) (h2 : x = false → ev b ρ = .ok e) : ev (.ite c a b) ρ = .ok (if x = true then d else e) := by
  rw [ev_ite, h, boolR_ok, R.bind_ok]
  cases x with
  | true => exact h1 rfl
  | false => exact h2 rfl
theorem fn1_ok {x : Str} {m : List PyData → R PyData} (h : ev a ρ = .ok d) (h2 : m [d] = r) : ev (.fn x m (.cons a .nil)) ρ = r := by rw [ev_fn, evs_cons, h]; exact h2
theorem fn2_ok {x : Str} {m : List PyData → R PyData} (h : ev a ρ = .ok d) (h' : ev b ρ = .ok e) (h2 : m [d, e] = r) : ev (.fn x m (.cons a (.cons b .nil))) ρ = r := by rw [ev_fn, evs_cons, h, R.bind_ok, evs_cons, h']; exact h2
theorem fn3_ok {x : Str} {m : List PyData → R PyData} (h : ev a ρ = .ok d) (h' : ev b ρ = .ok e) (h'' : ev c ρ = .ok f) (h2 : m [d, e, f] = r) : ev (.fn x m (.cons a (.cons b (.cons c .nil)))) ρ = r := by rw [ev_fn, evs_cons, h, R.bind_ok, evs_cons, h', R.bind_ok, evs_cons, h'']; exact h2
theorem seq_ok {ds : List PyData} (h : ev a ρ = .ok d) (h2 : seqOf d = some ds) : evI (.seq a) ρ = .ok ds := by rw [evI_seq, h, R.bind_ok, h2]; rfl
theorem all_comp {α : Type} {xs : List α} {enc : α → PyData} {p : α → Bool} (h : evI it ρ = .ok (xs.map enc)) (hl : xs.length ≤ 1000000) (hf : ∀ x ∈ xs, ∃ ρ1, asgT tg (enc x) (wipeS ρ (own.map (·.2))) = .ok ρ1 ∧ ev elt ρ1 = .ok (.bool (p x))) :
    ev (.un .all (.comp it tg elt own)) ρ = .ok (.bool (xs.all p)) := by
  refine un_ok (ev_comp_ok (g := fun x => .bool (p x)) h hl hf) ?_
  rw [all_list, show (xs.map fun x => PyData.bool (p x)) = (xs.map p).map .bool by rw [List.map_map]; rfl, asBools_map, R.of_some, List.all_map]
  rfl
theorem any_comp {α : Type} {xs : List α} {enc : α → PyData} {p : α → Bool} (h : evI it ρ = .ok (xs.map enc)) (hl : xs.length ≤ 1000000) (hf : ∀ x ∈ xs, ∃ ρ1, asgT tg (enc x) (wipeS ρ (own.map (·.2))) = .ok ρ1 ∧ ev elt ρ1 = .ok (.bool (p x))) :
    ev (.un .any (.comp it tg elt own)) ρ = .ok (.bool (xs.any p)) := by
  refine un_ok (ev_comp_ok (g := fun x => .bool (p x)) h hl hf) ?_
  rw [any_list, show (xs.map fun x => PyData.bool (p x)) = (xs.map p).map .bool by rw [List.map_map]; rfl, asBools_map, R.of_some, List.any_map]
  rfl
theorem join_of {cs : List Nat} (h : ev a ρ = .ok (.list (cs.map c1s))) (hl : cs.length ≤ 1000) : ev (.bi .join (.cst (.str "")) a) ρ = .ok (.str (sg cs)) := bi_ok rfl h rfl (join_singles hl)
end
theorem wp_cut {a b : S} {ρ : Env} {N : Env → Prop} {T : PyData → Prop} (M : Env → Prop) (h : Wp (ex a ρ) M T) (h2 : ∀ ρ', M ρ' → Wp (ex b ρ') N T) : Wp (ex (.seq a b) ρ) N T := wp_seq (h.imp h2 fun _ q => q)
@[simp] theorem sto_str (z : Str) (i : Int) : bi2 .sto (.str z) (.int i) = R.when (sok z) (.ok (.str ⟨(z.cps.toList.take (sixN z.length i)).toArray⟩)) := rfl
@[simp] theorem rev_list (ds : List PyData) : un1 .rev (.list ds) = .ok (.list ds.reverse) := rfl
theorem full_nat {l : List Nat} {lo n : Nat} (nd : l.Nodup) (hr : ∀ x ∈ l, lo ≤ x ∧ x < lo + n) : l.length = n ↔ ∀ x, lo ≤ x → x < lo + n → x ∈ l := by
  constructor
  · intro hl x h0 h1
    apply Classical.byContradiction
    intro hx
    have := L2.nat_nodup_len (x :: l) ((List.range n).map (lo + ·)) (List.nodup_cons.mpr ⟨hx, nd⟩) fun c hc => by
      rcases List.mem_cons.mp hc with rfl | hc
      · exact List.mem_map.mpr ⟨c - lo, List.mem_range.mpr (by omega), by omega⟩
      · have := hr c hc
        exact List.mem_map.mpr ⟨c - lo, List.mem_range.mpr (by omega), by omega⟩
    simp at this
    omega
  · intro ha
    have h1 := L2.nat_nodup_len l ((List.range n).map (lo + ·)) nd fun c hc => by
      have := hr c hc
      exact List.mem_map.mpr ⟨c - lo, List.mem_range.mpr (by omega), by omega⟩
    have h2 := L2.nat_nodup_len ((List.range n).map (lo + ·)) l (List.Pairwise.map _ (fun a b h => by omega) List.pairwise_lt_range) fun c hc => by
      obtain ⟨k, hk, rfl⟩ := List.mem_map.mp hc
      have := List.mem_range.mp hk
      exact ha _ (by omega) (by omega)
    simp at h1 h2
    omega
/-! #### encodings -/
structure IsEnc {α : Type} [DecidableEq α] (enc : α → PyData) : Prop where
  eq : ∀ a b, PyData.eqv (enc a) (enc b) = decide (a = b)
  dep : ∀ a, (enc a).depth ≤ 4
section
variable {α : Type} [DecidableEq α] {enc : α → PyData}
theorem eqvAll_map (h : ∀ a b, PyData.eqv (enc a) (enc b) = decide (a = b)) : ∀ (a b : List α), PyData.eqvAll (a.map enc) (b.map enc) = decide (a = b)
  | [], [] => by simp [PyData.eqvAll]
  | [], _ :: _ => by simp [PyData.eqvAll]
  | _ :: _, [] => by simp [PyData.eqvAll]
  | x :: a, y :: b => by
    rw [List.map_cons, List.map_cons, PyData.eqvAll, h, eqvAll_map h a b]
    by_cases h1 : x = y <;> by_cases h2 : a = b <;> simp [h1, h2]
theorem enc_deps (h : IsEnc enc) (xs : List α) : PyData.depthAll (xs.map enc) ≤ 4 := depthAll_le fun d hd => by
  obtain ⟨a, _, rfl⟩ := List.mem_map.mp hd
  exact h.dep a
theorem enc_dep (h : IsEnc enc) (x : α) : depOk (enc x) = true := decide_eq_true (by have := h.dep x; omega)
theorem eq_enc (h : IsEnc enc) (a b : α) : bi2 .eq (enc a) (enc b) = .ok (.bool (decide (a = b))) := by
  have : bi2 .eq (enc a) (enc b) = R.when (depOk (enc a) || depOk (enc b)) (.ok (.bool (PyData.eqv (enc a) (enc b)))) := rfl
  rw [this, enc_dep h, Bool.true_or, R.when_true, h.eq]
theorem ne_enc (h : IsEnc enc) (a b : α) : bi2 .ne (enc a) (enc b) = .ok (.bool (!decide (a = b))) := by
  have : bi2 .ne (enc a) (enc b) = R.when (depOk (enc a) || depOk (enc b)) (.ok (.bool (!PyData.eqv (enc a) (enc b)))) := rfl
  rw [this, enc_dep h, Bool.true_or, R.when_true, h.eq]
theorem eq_list (h : IsEnc enc) (a b : List α) : bi2 .eq (.list (a.map enc)) (.list (b.map enc)) = .ok (.bool (decide (a = b))) := by
  show R.when (depOk _ || depOk _) _ = _
  rw [depOk_list (Nat.le_trans (enc_deps h a) (by decide)), Bool.true_or, R.when_true, PyData.eqv, eqvAll_map h.eq]
theorem ne_list (h : IsEnc enc) (a b : List α) : bi2 .ne (.list (a.map enc)) (.list (b.map enc)) = .ok (.bool (!decide (a = b))) := by
  show R.when (depOk _ || depOk _) _ = _
  rw [depOk_list (Nat.le_trans (enc_deps h a) (by decide)), Bool.true_or, R.when_true, PyData.eqv, eqvAll_map h.eq]
theorem eq_tup (h : IsEnc enc) (a b : List α) : bi2 .eq (.tuple (a.map enc)) (.tuple (b.map enc)) = .ok (.bool (decide (a = b))) := by
  show R.when (depOk _ || depOk _) _ = _
  rw [depOk_tuple (Nat.le_trans (enc_deps h a) (by decide)), Bool.true_or, R.when_true, PyData.eqv, eqvAll_map h.eq]
theorem ne_tup (h : IsEnc enc) (a b : List α) : bi2 .ne (.tuple (a.map enc)) (.tuple (b.map enc)) = .ok (.bool (!decide (a = b))) := by
  show R.when (depOk _ || depOk _) _ = _
  rw [depOk_tuple (Nat.le_trans (enc_deps h a) (by decide)), Bool.true_or, R.when_true, PyData.eqv, eqvAll_map h.eq]
theorem inD_enc (h : IsEnc enc) (x : α) (a : List α) : inD (enc x) (a.map enc) = decide (x ∈ a) := by
  unfold inD
  rw [List.any_map]
  induction a with
  | nil => rfl
  | cons y a ih =>
    rw [List.any_cons, ih]
    show (PyData.eqv (enc y) (enc x) || _) = _
    rw [h.eq]
    by_cases q : y = x
    · subst q; simp
    · have q' : x ≠ y := fun z => q z.symm
      simp [q, q']
theorem inn_list (h : IsEnc enc) (x : α) (a : List α) : bi2 .inn (enc x) (.list (a.map enc)) = .ok (.bool (decide (x ∈ a))) := by
  have : bi2 .inn (enc x) (.list (a.map enc)) = R.when (depOk (enc x)) (.ok (.bool (inD (enc x) (a.map enc)))) := by
    cases enc x <;> rfl
  rw [this, enc_dep h, R.when_true, inD_enc h]
theorem nin_list (h : IsEnc enc) (x : α) (a : List α) : bi2 .nin (enc x) (.list (a.map enc)) = .ok (.bool (!decide (x ∈ a))) := by
  have : bi2 .nin (enc x) (.list (a.map enc)) = R.when (depOk (enc x)) (.ok (.bool (!inD (enc x) (a.map enc)))) := by
    cases enc x <;> rfl
  rw [this, enc_dep h, R.when_true, inD_enc h]
theorem inn_tup (h : IsEnc enc) (x : α) (a : List α) : bi2 .inn (enc x) (.tuple (a.map enc)) = .ok (.bool (decide (x ∈ a))) := by
  have : bi2 .inn (enc x) (.tuple (a.map enc)) = R.when (depOk (enc x)) (.ok (.bool (inD (enc x) (a.map enc)))) := by
    cases enc x <;> rfl
  rw [this, enc_dep h, R.when_true, inD_enc h]
theorem enc_list (h : ∀ a b, PyData.eqv (enc a) (enc b) = decide (a = b)) (hd : ∀ a, (enc a).depth ≤ 3) : IsEnc fun l : List α => PyData.list (l.map enc) where
  eq a b := by rw [PyData.eqv, eqvAll_map h]
  dep a := by
    rw [PyData.depth]
    have := depthAll_le (ds := a.map enc) (n := 3) fun d hd' => by
      obtain ⟨x, _, rfl⟩ := List.mem_map.mp hd'
      exact hd x
    omega
theorem enc_tup (h : ∀ a b, PyData.eqv (enc a) (enc b) = decide (a = b)) (hd : ∀ a, (enc a).depth ≤ 3) : IsEnc fun l : List α => PyData.tuple (l.map enc) where
  eq a b := by rw [PyData.eqv, eqvAll_map h]
  dep a := by
    rw [PyData.depth]
    have := depthAll_le (ds := a.map enc) (n := 3) fun d hd' => by
      obtain ⟨x, _, rfl⟩ := List.mem_map.mp hd'
      exact hd x
    omega
end
theorem eqv_str (a b : Str) : PyData.eqv (.str a) (.str b) = decide (a = b) := by
  rw [PyData.eqv]
  by_cases h : a = b <;> simp [h]
theorem eqv_bl (a b : Bool) : PyData.eqv (.bool a) (.bool b) = decide (a = b) := by
  rw [PyData.eqv]
  cases a <;> cases b <;> rfl
theorem enc_int : IsEnc PyData.int := ⟨eqv_int, fun _ => Nat.zero_le _⟩
theorem enc_str : IsEnc PyData.str := ⟨eqv_str, fun _ => Nat.zero_le _⟩
theorem enc_bool : IsEnc PyData.bool := ⟨eqv_bl, fun _ => Nat.zero_le _⟩
theorem enc_sg : IsEnc fun l : List Nat => PyData.str (sg l) := ⟨fun a b => by
  rw [eqv_str]
  by_cases h : a = b
  · simp [h]
  · have : sg a ≠ sg b := fun z => h (sg_inj z)
    simp [h, this], fun _ => Nat.zero_le _⟩
theorem enc_c1 : IsEnc c1s := ⟨fun a b => by
  rw [eqv_str]
  by_cases h : a = b <;> simp [h], fun _ => Nat.zero_le _⟩
theorem enc_tm : IsEnc tmD := ⟨eqv_tm, fun a => by rw [depth_tm]; decide⟩
theorem enc_cl : IsEnc clD := ⟨fun a b => by
  obtain ⟨m, c⟩ := a
  obtain ⟨m', c'⟩ := b
  show PyData.eqv (.tuple [.int m, c1s c]) (.tuple [.int m', c1s c']) = _
  simp only [PyData.eqv, PyData.eqvAll]
  by_cases h1 : m = m' <;> by_cases h2 : c = c' <;> simp [h1, h2], fun a => (by decide : (1 : Nat) ≤ 4)⟩
theorem enc_st : IsEnc stD := ⟨fun a b => by
  obtain ⟨q, n, s, g⟩ := a
  obtain ⟨q', n', s', g'⟩ := b
  show PyData.eqv (.tuple [.tuple (q.map tmD), .str (sg n), .str (sg s), .int g]) (.tuple [.tuple (q'.map tmD), .str (sg n'), .str (sg s'), .int g']) = _
  have e1 : PyData.eqv (.tuple (q.map tmD)) (.tuple (q'.map tmD)) = decide (q = q') := (enc_tup eqv_tm (fun a => by rw [depth_tm]; decide)).eq q q'
  have e2 := enc_sg.eq n n'
  have e3 := enc_sg.eq s s'
  have e4 := eqv_int g g'
  rw [PyData.eqv]
  simp only [PyData.eqvAll, e1, e2, e3, e4]
  by_cases h1 : q = q' <;> by_cases h2 : n = n' <;> by_cases h3 : s = s' <;> by_cases h4 : g = g' <;> simp [h1, h2, h3, h4], fun a => by
  have h : PyData.depthAll (a.q.map tmD) ≤ 1 := depthAll_le fun d hd => by
    obtain ⟨x, _, rfl⟩ := List.mem_map.mp hd
    rw [depth_tm]; exact Nat.le_refl _
  show PyData.depth (.tuple [.tuple (a.q.map tmD), .str (sg a.near), .str (sg a.shut), .int a.again]) ≤ 4
  rw [PyData.depth]
  have h2 : PyData.depthAll [.tuple (a.q.map tmD), .str (sg a.near), .str (sg a.shut), .int a.again] ≤ 2 := depthAll_le fun d hd => by
    simp only [List.mem_cons, List.not_mem_nil, or_false] at hd
    rcases hd with rfl | rfl | rfl | rfl
    · rw [PyData.depth]; omega
    · exact Nat.zero_le _
    · exact Nat.zero_le _
    · exact Nat.zero_le _
  omega⟩
/-! #### sorting numbers -/
theorem srt_ints {ns : List Int} (h : ns.length ≤ 1000000) : un1 .srt (.list (ns.map .int)) = .ok (.list ((ns.mergeSort fun a b => decide (a ≤ b)).map .int)) := by
  rw [srt_list]
  unfold srtD
  rw [alike_ints, sortable_ints, depall_ints, show lok (ns.map PyData.int) = true from decide_eq_true (by rw [List.length_map]; exact h), sortD_ints]
  rfl
theorem srt_nodup {ns : List Int} (h : ns.Nodup) : (ns.mergeSort fun a b => decide (a ≤ b)) = sortI ns := by
  refine lt_ext ?_ (sortI_lt ns) fun x => by rw [(List.mergeSort_perm ..).mem_iff, mem_sortI]
  have h1 : (ns.mergeSort fun a b => decide (a ≤ b)).Pairwise fun a b => decide (a ≤ b) = true := List.pairwise_mergeSort (fun a b c h1 h2 => by simp at *; omega) (fun a b => by simp; omega) _
  have h2 : (ns.mergeSort fun a b => decide (a ≤ b)).Nodup := (List.mergeSort_perm ..).nodup_iff.mpr h
  exact (h1.and h2).imp fun ⟨a, b⟩ => by simp at a; omega
theorem hrs_lt (q : List Tm) : (QL.hrs q).Pairwise (· < ·) := sortI_lt _
/-- all hours are there -/
theorem full_iff {l : List Int} (h : l.Pairwise (· < ·)) (hr : ∀ x ∈ l, 0 ≤ x ∧ x < 168) : l.length = 168 ↔ ∀ x : Int, 0 ≤ x → x < 168 → x ∈ l := by
  have nd : l.Nodup := h.imp fun h => by omega
  let r : List Int := (List.range 168).map fun k => ((k : Nat) : Int)
  have mr : ∀ x, x ∈ r ↔ 0 ≤ x ∧ x < 168 := fun x => by
    simp only [r, List.mem_map, List.mem_range]
    constructor
    · rintro ⟨k, hk, rfl⟩; omega
    · intro hx; exact ⟨x.toNat, by omega, by omega⟩
  have ndr : r.Pairwise (· < ·) := by
    rw [List.pairwise_map]
    exact List.pairwise_lt_range.imp fun h => by omega
  constructor
  · intro hl x h0 h1
    apply Classical.byContradiction
    intro hx
    have nd2 : (x.toNat :: l.map Int.toNat).Nodup := by
      rw [List.nodup_cons]
      refine ⟨fun hm => ?_, ?_⟩
      · obtain ⟨y, hy, e⟩ := List.mem_map.mp hm
        have := hr y hy
        exact hx (by rwa [show x = y by omega])
      · refine List.Pairwise.map _ ?_ (List.Pairwise.and_mem.mp h)
        rintro a b ⟨ha, hb, hab⟩
        have := hr a ha
        have := hr b hb
        omega
    have := L2.nat_nodup_len _ (List.range 168) nd2 fun c hc => by
      rcases List.mem_cons.mp hc with rfl | hc
      · exact List.mem_range.mpr (by omega)
      · obtain ⟨y, hy, rfl⟩ := List.mem_map.mp hc
        have := hr y hy
        exact List.mem_range.mpr (by omega)
    simp at this
    omega
  · intro ha
    have : l = r := lt_ext h ndr fun x => ⟨fun hx => (mr x).mpr (hr x hx), fun hx => ha x ((mr x).mp hx).1 ((mr x).mp hx).2⟩
    rw [this]; simp [r]
/-! #### given settings -/
def rowB (lo hi : Nat) (l : List Nat) : Bool := decide (l.Pairwise (· < ·)) && l.all fun c => decide (lo ≤ c) && decide (c ≤ hi)
theorem row_of {lo hi : Nat} {l : List Nat} (h : rowB lo hi l = true) : Row lo hi l := by
  unfold rowB at h
  simp only [Bool.and_eq_true, decide_eq_true_eq, List.all_eq_true] at h
  exact h
def goodTB (t : Tm) : Bool := !t.l.isEmpty && rowB 48 54 t.l && decide (0 ≤ t.b) && decide (t.b < 24) && decide (0 ≤ t.e) && decide (t.e < 24)
theorem goodT_of {t : Tm} (h : goodTB t = true) : GoodT t := by
  unfold goodTB at h
  simp only [Bool.and_eq_true, decide_eq_true_eq, Bool.not_eq_true'] at h
  obtain ⟨⟨⟨⟨⟨h1, h2⟩, h3⟩, h4⟩, h5⟩, h6⟩ := h
  exact ⟨fun z => (by rw [z] at h1; cases h1), row_of h2, h3, h4, h5, h6⟩
def goodB (s : Stg) : Bool := decide (s.q.length ≤ 4) && s.q.all goodTB && decide (s.q.Pairwise fun a b => ltT a b = true) && rowB 97 102 s.near && rowB 97 102 s.shut && s.near.all (fun c => !decide (c ∈ s.shut)) && decide (0 ≤ s.again) && decide (s.again ≤ 59)
theorem good_of {s : Stg} (h : goodB s = true) : Good s := by
  unfold goodB at h
  simp only [Bool.and_eq_true, decide_eq_true_eq, List.all_eq_true, Bool.not_eq_true', decide_eq_false_iff_not] at h
  obtain ⟨⟨⟨⟨⟨⟨⟨h1, h2⟩, h3⟩, h4⟩, h5⟩, h6⟩, h7⟩, h8⟩ := h
  exact ⟨h1, fun t ht => goodT_of (h2 t ht), h3, row_of h4, row_of h5, h6, h7, h8⟩
end QB
/-! ### a run has one end; two wishes of one run -/
namespace QB
open PySem
theorem runs_det {M : Model} {Γ : Ctx} {p : Pos} {t : Sem Fin} {fs : List Frame} {s s1 : Shared} {e1 : End} (h1 : Runs M Γ p t fs s e1 s1) : ∀ {e2 : End} {s2 : Shared}, Runs M Γ p t fs s e2 s2 → e1 = e2 ∧ s1 = s2 := by
  induction h1 with
  | done => intro e2 s2 h2; cases h2; exact ⟨rfl, rfl⟩
  | raise => intro e2 s2 h2; cases h2; exact ⟨rfl, rfl⟩
  | again _ _ ih => intro e2 s2 h2; cases h2; rename_i h; exact ih h
  | rule _ ih => intro e2 s2 h2; cases h2; rename_i h; exact ih h
  | «at» _ ih => intro e2 s2 h2; cases h2; rename_i h; exact ih h
  | load e _ ih =>
    intro e2 s2 h2
    cases h2
    rename_i e' h
    rw [e] at e'
    cases e'
    exact ih h
  | update _ _ ih => intro e2 s2 h2; cases h2; rename_i h; exact ih h
  | loadIfAlive _ ih => intro e2 s2 h2; cases h2; rename_i h; exact ih h
  | point _ ih => intro e2 s2 h2; cases h2; rename_i h; exact ih h
  | alloc _ ih => intro e2 s2 h2; cases h2; rename_i h; exact ih h
  | fresh _ ih => intro e2 s2 h2; cases h2; rename_i h; exact ih h
  | ask _ ih => intro e2 s2 h2; cases h2; rename_i h; exact ih h
  | choose _ _ ih => intro e2 s2 h2; cases h2; rename_i h; exact ih h
  | os _ ih => intro e2 s2 h2; cases h2; rename_i h; exact ih h
  | handled _ ih => intro e2 s2 h2; cases h2; rename_i h; exact ih h
  | genState e _ ih =>
    intro e2 s2 h2
    cases h2
    rename_i e' h
    rw [e] at e'
    cases e'
    exact ih h
  | stack _ ih => intro e2 s2 h2; cases h2; rename_i h; exact ih h
  | thread _ ih => intro e2 s2 h2; cases h2; rename_i h; exact ih h
  | newGen _ ih => intro e2 s2 h2; cases h2; rename_i h; exact ih h
  | call _ _ ih1 ih2 =>
    intro e2 s2 h2
    cases h2 with
    | call q1 q2 =>
      obtain ⟨a, b⟩ := ih1 q1
      cases a
      subst b
      exact ih2 q2
    | callSusp q1 => exact nomatch (ih1 q1).1
  | callSusp _ ih1 =>
    intro e2 s2 h2
    cases h2 with
    | call q1 q2 => exact nomatch (ih1 q1).1
    | callSusp q1 =>
      obtain ⟨a, b⟩ := ih1 q1
      cases a
      exact ⟨rfl, b⟩
  | yield => intro e2 s2 h2; cases h2; exact ⟨rfl, rfl⟩
  | resumeFresh e _ _ _ ih1 ih2 =>
    intro e2 s2 h2
    cases h2 with
    | resumeFresh e' q1 q2 q3 =>
      rw [e] at e'
      cases e'
      obtain ⟨a, b⟩ := ih1 q1
      subst a b
      exact ih2 q3
    | resumeSuspended e' => rw [e] at e'; cases e'
    | resumeJustStarted e' n => exact absurd rfl n
    | resumeRunning e' => rw [e] at e'; cases e'
    | resumeFinished e' => rw [e] at e'; cases e'
  | resumeSuspended e _ _ _ ih1 ih2 =>
    intro e2 s2 h2
    cases h2 with
    | resumeFresh e' => rw [e] at e'; cases e'
    | resumeSuspended e' q1 q2 q3 =>
      rw [e] at e'
      cases e'
      obtain ⟨a, b⟩ := ih1 q1
      subst a b
      exact ih2 q3
    | resumeJustStarted e' n => rw [e] at e'; cases e'
    | resumeThrowFresh e' => rw [e] at e'; cases e'
    | resumeRunning e' => rw [e] at e'; cases e'
    | resumeFinished e' => rw [e] at e'; cases e'
  | resumeJustStarted e n _ ih =>
    intro e2 s2 h2
    cases h2 with
    | resumeFresh e' => exact absurd rfl n
    | resumeSuspended e' => rw [e] at e'; cases e'
    | resumeJustStarted e' n' q => exact ih q
    | resumeRunning e' => rw [e] at e'; cases e'
    | resumeFinished e' => rw [e] at e'; cases e'
  | resumeThrowFresh e _ ih =>
    intro e2 s2 h2
    cases h2 with
    | resumeSuspended e' => rw [e] at e'; cases e'
    | resumeThrowFresh e' q => exact ih q
    | resumeRunning e' => rw [e] at e'; cases e'
    | resumeFinished e' => rw [e] at e'; cases e'
  | resumeRunning e _ ih =>
    intro e2 s2 h2
    cases h2 with
    | resumeFresh e' => rw [e] at e'; cases e'
    | resumeSuspended e' => rw [e] at e'; cases e'
    | resumeJustStarted e' => rw [e] at e'; cases e'
    | resumeThrowFresh e' => rw [e] at e'; cases e'
    | resumeRunning e' q => exact ih q
    | resumeFinished e' => rw [e] at e'; cases e'
  | resumeFinished e _ ih =>
    intro e2 s2 h2
    cases h2 with
    | resumeFresh e' => rw [e] at e'; cases e'
    | resumeSuspended e' => rw [e] at e'; cases e'
    | resumeJustStarted e' => rw [e] at e'; cases e'
    | resumeThrowFresh e' => rw [e] at e'; cases e'
    | resumeRunning e' => rw [e] at e'; cases e'
    | resumeFinished e' q => exact ih q
  | segRet _ _ ih1 ih2 =>
    intro e2 s2 h2
    cases h2 with
    | segRet q1 q2 =>
      obtain ⟨a, b⟩ := ih1 q1
      cases a
      subst b
      exact ih2 q2
    | segSuspOut n q1 => exact nomatch (ih1 q1).1
    | segSuspGen n q1 => exact nomatch (ih1 q1).1
  | segGen _ _ ih1 ih2 =>
    intro e2 s2 h2
    cases h2 with
    | segGen q1 q2 =>
      obtain ⟨a, b⟩ := ih1 q1
      cases a
      subst b
      exact ih2 q2
    | segSuspOut n q1 => exact nomatch (ih1 q1).1
    | segSuspGen n q1 => exact nomatch (ih1 q1).1
  | segSuspOut n _ ih1 =>
    intro e2 s2 h2
    cases h2 with
    | segRet q1 q2 => exact nomatch (ih1 q1).1
    | segGen q1 q2 => exact nomatch (ih1 q1).1
    | segSuspOut n' q1 =>
      obtain ⟨a, b⟩ := ih1 q1
      cases a
      exact ⟨rfl, b⟩
    | segSuspGen n' q1 => rw [n] at n'; cases n'
  | segSuspGen n _ _ _ ih1 ih2 =>
    intro e2 s2 h2
    cases h2 with
    | segRet q1 q2 => exact nomatch (ih1 q1).1
    | segGen q1 q2 => exact nomatch (ih1 q1).1
    | segSuspOut n' q1 => rw [n] at n'; cases n'
    | segSuspGen n' q1 q2 q3 =>
      rw [n] at n'
      cases n'
      obtain ⟨a, b⟩ := ih1 q1
      cases a
      subst b
      exact ih2 q3
theorem wakes_det {M : Model} {Γ : Ctx} {p : Pos} {g : Nat} {r : Resume} {s s1 s2 : Shared} {r1 r2 : GenResult} (h1 : Wakes M Γ p g r s r1 s1) (h2 : Wakes M Γ p g r s r2 s2) : r1 = r2 ∧ s1 = s2 := by
  unfold Wakes at h1 h2
  split at h1
  · exact h1.elim
  · rename_i c hc
    rw [hc] at h2
    cases r with
    | send v =>
      cases v <;> first
        | (obtain ⟨e1, t1, a1, _, rfl, rfl⟩ := h1
           obtain ⟨e2, t2, a2, _, rfl, rfl⟩ := h2
           obtain ⟨a, b⟩ := runs_det a1 a2
           subst a b
           exact ⟨rfl, rfl⟩)
        | exact ⟨h1.1.trans h2.1.symm, h1.2.trans h2.2.symm⟩
    | throw x => exact ⟨h1.1.trans h2.1.symm, h1.2.trans h2.2.symm⟩
  · rename_i hc
    rw [hc] at h2
    obtain ⟨e1, t1, a1, _, rfl, rfl⟩ := h1
    obtain ⟨e2, t2, a2, _, rfl, rfl⟩ := h2
    obtain ⟨a, b⟩ := runs_det a1 a2
    subst a b
    exact ⟨rfl, rfl⟩
  · rename_i hc
    rw [hc] at h2
    exact ⟨h1.1.trans h2.1.symm, h1.2.trans h2.2.symm⟩
  · rename_i hc
    rw [hc] at h2
    exact ⟨h1.1.trans h2.1.symm, h1.2.trans h2.2.symm⟩
theorem wp_and {α : Type} (M : Model) (Γ : Ctx) (t : Sem α) : ∀ (Q Q' : α → Pos → Shared → Prop) (E E' : Value → Pos → Shared → Prop) (p : Pos) (s : Shared), Sem.wp M Γ t Q E p s → Sem.wp M Γ t Q' E' p s →
    Sem.wp M Γ t (fun a p' s' => Q a p' s' ∧ Q' a p' s') (fun e p' s' => E e p' s' ∧ E' e p' s') p s := by
  induction t with
  | pure a => intro Q Q' E E' p s h h'; exact ⟨h, h'⟩
  | raise e => intro Q Q' E E' p s h h'; exact ⟨h, h'⟩
  | unsupported _ => intro Q Q' E E' p s h _; exact h
  | finish _ => intro Q Q' E E' p s h _; exact h
  | rule _ k ih => intro Q Q' E E' p s h h'; exact ih () Q Q' E E' p s h h'
  | «at» p' k ih => intro Q Q' E E' p s h h'; exact ih () Q Q' E E' p' s h h'
  | load a _ k ih =>
    intro Q Q' E E' p s h h'
    obtain ⟨o, ho, h⟩ := h
    obtain ⟨o', ho', h'⟩ := h'
    rw [ho] at ho'
    cases ho'
    exact ⟨o, ho, ih o Q Q' E E' p s h h'⟩
  | update a _ f k ih => intro Q Q' E E' p s h h'; exact ⟨h.1, ih () Q Q' E E' p _ h.2 h'.2⟩
  | loadIfAlive a k ih => intro Q Q' E E' p s h h'; exact ih _ Q Q' E E' p s h h'
  | point _ k ih => intro Q Q' E E' p s h h'; exact ih () Q Q' E E' p s h h'
  | register _ _ => intro Q Q' E E' p s h _; exact h
  | alloc o k ih => intro Q Q' E E' p s h h'; exact ih _ Q Q' E E' p _ h h'
  | fresh k ih => intro Q Q' E E' p s h h'; exact ih _ Q Q' E E' p _ h h'
  | ask k ih => intro Q Q' E E' p s h h'; exact ih _ Q Q' E E' p s h h'
  | choose src m k ih => intro Q Q' E E' p s h h'; exact ⟨h.1, ih _ Q Q' E E' p _ h.2 h'.2⟩
  | os q _ k ih => intro Q Q' E E' p s h h'; exact ih _ Q Q' E E' p _ h h'
  | call c hd _ _ k ih =>
    intro Q Q' E E' p s h h'
    obtain ⟨r, s1, hr, h⟩ := h
    obtain ⟨r', s1', hr', h'⟩ := h'
    obtain ⟨a, b⟩ := runs_det hr hr'
    cases a
    subst b
    exact ⟨r, s1, hr, ih r Q Q' E E' p s1 h h'⟩
  | handled own k ih => intro Q Q' E E' p s h h'; exact ih _ Q Q' E E' p s h h'
  | genState g k ih =>
    intro Q Q' E E' p s h h'
    obtain ⟨st, hs, h⟩ := h
    obtain ⟨st', hs', h'⟩ := h'
    rw [hs] at hs'
    cases hs'
    exact ⟨st, hs, ih _ Q Q' E E' p s h h'⟩
  | newGen c k ih => intro Q Q' E E' p s h h'; exact ih _ Q Q' E E' p _ h h'
  | resume g r _ k ih =>
    intro Q Q' E E' p s h h'
    obtain ⟨res, s1, hw, h⟩ := h
    obtain ⟨res', s1', hw', h'⟩ := h'
    obtain ⟨a, b⟩ := wakes_det hw hw'
    subst a b
    exact ⟨res, s1, hw, ih res Q Q' E E' p s1 h h'⟩
  | yield _ _ _ _ => intro Q Q' E E' p s h _; exact h
  | stack k ih => intro Q Q' E E' p s h h'; exact ih _ Q Q' E E' p s h h'
  | fork _ _ => intro Q Q' E E' p s h _; exact h
  | thread k ih => intro Q Q' E E' p s h h'; exact ih _ Q Q' E E' p s h h'
  | await _ _ _ _ _ => intro Q Q' E E' p s h _; exact h
/-- two wishes of one run -/
theorem wpAny_and {α : Type} {M : Model} {A : Around} {s : Shared} {t : Sem α} {Q Q' : α → Shared → Prop} {E E' : Value → Shared → Prop} (h : wpAny M A t Q E s) (h' : wpAny M A t Q' E' s) :
    wpAny M A t (fun a s' => Q a s' ∧ Q' a s') (fun e s' => E e s' ∧ E' e s') s := fun Γ p hΓ => wp_and M Γ t _ _ _ _ p s (h Γ p hΓ) (h' Γ p hΓ)
end QB
/-! ### a name whose text bears a token that is out: expressions -/
namespace QB
open PySem L2
/-- the i-th name holds a text with a token that is out already -/
def Tk (X : Cx) (i : Nat) (s : Shared) : Prop := ∃ (x y : Str) (t : Tok) (m : Str → Option Value), X.N[i]? = some x ∧ s.heap.Ns X.env.locals m ∧ Look X.env s.heap m x (.str y t) ∧ 0 < t ∧ t < s.toks
section
variable {X : Cx} {pins : List (Addr × Obj)} {σ : St} {H : Hp} {s s' : Shared} {i : Nat}
theorem Tk.mv (T : Tk X i s) (kL : ∀ o, s.heap.get? X.env.locals = some o → ∃ sl, s'.heap.get? X.env.locals = some { o with slots := sl })
    (kC : ∀ x c o, X.env.cells.lookup x = some c → s.heap.get? c = some o → ∃ sl, s'.heap.get? c = some { o with slots := sl }) (ht : s.toks ≤ s'.toks) : Tk X i s' := by
  obtain ⟨x, y, t, m, h1, h2, h3, h4, h5⟩ := T
  obtain ⟨o, es, ep, ho, r⟩ := h2
  obtain ⟨sl, hL⟩ := kL o ho
  refine ⟨x, y, t, m, h1, ⟨_, es, ep, hL, r⟩, ?_, h4, Nat.lt_of_lt_of_le h5 ht⟩
  rcases h3 with z | ⟨k, c, e, oc, hc, hd⟩
  · exact .inl z
  · obtain ⟨sl', q⟩ := kC x c oc e hc
    exact .inr ⟨k, c, e, _, q, hd⟩
theorem Tk.same (T : Tk X i s) (k : ∀ b o, s.heap.get? b = some o → s'.heap.get? b = some o) (ht : s.toks ≤ s'.toks) : Tk X i s' :=
  T.mv (fun o e => ⟨o.slots, k _ o e⟩) (fun _ c o _ e => ⟨o.slots, k c o e⟩) ht
theorem Tk.un {H' : Hp} {fs : List Addr} (T : Tk X i s) (I : Inv X pins σ H s) (u : L2.Un fs [] H H' s.heap s'.heap) (ht : s.toks ≤ s'.toks) : Tk X i s' :=
  T.mv (fun o e => u.any e I.free (by simp)) (fun x c o ec e => u.any e (I.freeC x c ec) (by simp)) ht
/-- a record apart has turned -/
theorem Tk.but {it : Addr} (T : Tk X i s) (k : ∀ b o, b ≠ it → s.heap.get? b = some o → s'.heap.get? b = some o) (hL : it ≠ X.env.locals) (hC : ∀ x c, X.env.cells.lookup x = some c → c ≠ it) (ht : s.toks ≤ s'.toks) : Tk X i s' :=
  T.mv (fun o e => ⟨o.slots, k _ o (Ne.symm hL) e⟩) (fun x c o ec e => ⟨o.slots, k c o (hC x c ec) e⟩) ht
/-- the very value that the name holds -/
theorem Tk.val (T : Tk X i s) (I : Inv X pins σ H s) {v : V} (hs : σ[i]? = some (some v)) {x : Str} (hN : X.N[i]? = some x) (hv : Vis X.env.scope x) : ∃ y t m, s.heap.Ns X.env.locals m ∧ Look X.env s.heap m x (.str y t) ∧ RelV v (.str y t) ∧ v = .str y ∧ 0 < t ∧ t < s.toks := by
  obtain ⟨x', y, t, m, h1, h2, h3, h4, h5⟩ := T
  rw [hN] at h1
  cases h1
  obtain ⟨m', hn, hl⟩ := I.loc
  obtain ⟨u, r, l⟩ := hl i x v hN hs hv
  have hm : m' = m := by
    obtain ⟨o, es, ep, ho, hd, hk, hf⟩ := h2
    obtain ⟨o', es', ep', ho', hd', hk', hf'⟩ := hn
    rw [ho] at ho'
    cases ho'
    rw [hd] at hd'
    cases hd'
    funext z
    rw [← hf z, ← hf' z]
  subst hm
  have hu : u = .str y t := by
    rcases l with ⟨k, e⟩ | ⟨k, c, e, oc, hc, hd⟩
    · rcases h3 with ⟨k', e'⟩ | ⟨k', c', e', oc', hc', hd'⟩
      · rw [e] at e'; cases e'; rfl
      · rw [k] at k'; rcases k' with k' | k' <;> cases k'
    · rcases h3 with ⟨k', e'⟩ | ⟨k', c', e', oc', hc', hd'⟩
      · rw [k'] at k; rcases k with k | k <;> cases k
      · rw [e] at e'
        cases e'
        rw [hc] at hc'
        cases hc'
        rw [hd] at hd'
        cases hd'
        rfl
  subst hu
  have hv' : v = .str y := by
    cases v <;> first
      | (obtain ⟨_, e⟩ := r; cases e; rfl)
      | (obtain ⟨_, e⟩ := r; cases e; done)
      | (cases r; done)
  exact ⟨y, t, m', h2, h3, r, hv', h4, h5⟩
end
/-! #### expressions -/
structure PEt (X : Cx) (i : Nat) (e : Expr) (t : TE) : Prop where
  run : ∀ (pins : List (Addr × Obj)) (s : Shared) (σ : St) (H : Hp) (Q : VK), Inv X pins σ H s → Tk X i s → t σ H Q → wpAny (model X.prog X.w) X.A (eval e X.env) (fun u s' => EP X pins σ Q u s' ∧ Tk X i s') X.xe s
structure PAt (X : Cx) (i : Nat) (es : List Expr) (t : TA) : Prop where
  run : ∀ (pos : Pos) (pins : List (Addr × Obj)) (s : Shared) (σ : St) (H : Hp) (Q : List V → Hp → Prop), Inv X pins σ H s → Tk X i s → t σ H Q → wpAny (model X.prog X.w) X.A (spliced (backTo pos (starEach es X.env))) (fun us s' => AP X pins σ Q us s' ∧ Tk X i s') X.xe s
structure PTt (X : Cx) (i : Nat) (e : Expr) (t : TT) : Prop where
  run : ∀ (pins : List (Addr × Obj)) (s : Shared) (σ : St) (H : Hp) (Q : Bool → Hp → Prop), Inv X pins σ H s → Tk X i s → t σ H Q → wpAny (model X.prog X.w) X.A (isTrue e X.env (eval e X.env)) (fun b s' => TP X pins σ Q b s' ∧ Tk X i s') X.xe s
structure PWt (X : Cx) (i : Nat) (e : Expr) (t : TT) : Prop where
  run : ∀ (whole : Sem Value) (pins : List (Addr × Obj)) (s : Shared) (σ : St) (H : Hp) (Q : Bool → Hp → Prop), Inv X pins σ H s → Tk X i s → t σ H Q → wpAny (model X.prog X.w) X.A (isTrue e X.env whole) (fun b s' => TP X pins σ Q b s' ∧ Tk X i s') X.xe s
theorem PWt.pt {X : Cx} {i : Nat} {e : Expr} {t : TT} (h : PWt X i e t) : PTt X i e t := ⟨h.run _⟩
/-- a def that wants the token of its second argument out already -/
structure FnOkT (P : Program) (w : World) (K : PySem.W.Frag) (mg : Str → Option Value) (base : Heap) (CX : CXT) (k : Nat) (f : Addr) (fd : FuncData) (ps : List Str) (sp : Sp) : Prop where
  len : ∀ vs H Q E, sp vs H Q E → vs.length = ps.length
  run : ∀ (A : Around) (outer : List PySem.Env) (s : Shared) (H : Hp) (args : Args) (us : List Value) (vs : List V) (Q : VK) (E : XK), Room k A → Env0 P w K mg base A outer s H → BindsTo s fd args (ps.zip us) → Vals vs us → (∀ y t, us[1]? = some (.str y t) → 0 < t ∧ t < s.toks) → sp vs H Q E →
    codeAny (model P w) A (.call (.ref f) args) (CR CX outer P w H s Q E) s
theorem FnOkT.mono {P : Program} {w : World} {K : PySem.W.Frag} {mg : Str → Option Value} {base : Heap} {CX : CXT} {j k : Nat} {f : Addr} {fd : FuncData} {ps : List Str} {sp : Sp} (F : FnOkT P w K mg base CX j f fd ps sp) (h : j ≤ k) :
    FnOkT P w K mg base CX k f fd ps sp := ⟨F.len, fun A outer s H args us vs Q E hr => F.run A outer s H args us vs Q E (hr.mono h)⟩
section
variable {X : Cx} {i : Nat} {a b e : Expr} {es : List Expr} {ta tb te : TE} {t : TA} {pos p : Pos}
theorem pk_var {j : Nat} {x : Str} (hN : X.N[j]? = some x) (hv : Vis X.env.scope x) (hd : (x == ("__debug__" : Str)) = false) (hcd : (x == ("__classdict__" : Str)) = false) : PEt X i (.Name x pos) (tVar j) := by
  refine ⟨fun pins s σ H Q I T h => ?_⟩
  obtain ⟨v, e, h⟩ := h
  obtain ⟨m, hn, hl⟩ := I.loc
  obtain ⟨u, r, l⟩ := hl j x v hN e hv
  have fin : EP X pins σ Q u s ∧ Tk X i s := ⟨⟨v, H, I, r, h⟩, T⟩
  rcases l with ⟨hk, hm⟩ | ⟨hk, c, hc, hcell⟩
  · exact wpAny_Name (wpAny_loadName_local I.ok.kind hk hn hm fin) hd
  · rcases hk with hk | hk
    · exact wpAny_Name (wpAny_loadName_cell I.ok.kind hk hc hcell fin) hd
    · exact wpAny_Name (wpAny_loadName_free I.ok.kind hk hc hcell fin hcd) hd
/-- the name itself, with its token -/
theorem name_tok {x : Str} (hN : X.N[i]? = some x) (hv : Vis X.env.scope x) (hd : (x == ("__debug__" : Str)) = false) (hcd : (x == ("__classdict__" : Str)) = false) {pins : List (Addr × Obj)} {s : Shared} {σ : St} {H : Hp} {v : V} {Q : Value → Shared → Prop} (I : Inv X pins σ H s) (T : Tk X i s) (hs : σ[i]? = some (some v))
    (h : ∀ y t, RelV v (.str y t) → v = .str y → 0 < t → t < s.toks → Q (.str y t) s) : wpAny (model X.prog X.w) X.A (eval (.Name x pos) X.env) Q X.xe s := by
  obtain ⟨y, t, m, hn, l, r, ev, h0, h1⟩ := T.val I hs hN hv
  have fin := h y t r ev h0 h1
  rcases l with ⟨hk, hm⟩ | ⟨hk, c, hc, hcell⟩
  · exact wpAny_Name (wpAny_loadName_local I.ok.kind hk hn hm fin) hd
  · rcases hk with hk | hk
    · exact wpAny_Name (wpAny_loadName_cell I.ok.kind hk hc hcell fin) hd
    · exact wpAny_Name (wpAny_loadName_free I.ok.kind hk hc hcell fin hcd) hd
theorem pk_str {z : Str} {j : Nat} : PEt X i (.Constant (.str z) j pos) (tC (.str z)) := ⟨fun _ s _ H _ I T h => Calls.Constant_str ⟨⟨.str z, H, I.tok _, ⟨_, rfl⟩, h⟩, T.same (fun _ _ e => e) (Nat.le_succ _)⟩⟩
theorem pk_bl {z : Bool} {j : Nat} : PEt X i (.Constant (.bool z) j pos) (tC (.bl z)) := ⟨fun _ s _ H _ I T h => PyProof.Rows.Constant_bool ⟨⟨.bl z, H, I, rfl, h⟩, T⟩⟩
theorem pka_nil : PAt X i [] tNil := ⟨fun _ _ _ _ H Q I T h => Calls.spliced_nil ⟨⟨[], H, I, .nil, h⟩, T⟩⟩
theorem pka_cons (ha : PEt X i e te) (hr : PAt X i es t) (hs : starEach (e :: es) X.env = (false, eval e X.env) :: starEach es X.env) : PAt X i (e :: es) (tCons te t) := by
  refine ⟨fun pos pins s σ H Q I T h => ?_⟩
  rw [hs]
  show wpAny _ _ (spliced ((false, eval e X.env) :: backTo pos (starEach es X.env))) _ _ s
  refine Calls.spliced_cons (thn (ha.run pins s σ H _ I T h) fun u s1 ⟨⟨x, H1, I1, r1, q1⟩, T1⟩ => ?_)
  exact thn (hr.run pos pins s1 σ H1 _ I1 T1 q1) fun us s2 ⟨⟨xs, H2, I2, r2, q2⟩, T2⟩ => ⟨⟨x :: xs, H2, I2, .cons r1 r2, q2⟩, T2⟩
theorem pk_tup {x1 : _} (h : PAt X i es t) : PEt X i (.Tuple es x1 pos) (tTup t) := by
  refine ⟨fun pins s σ H Q I T hq => ?_⟩
  refine wpAny_Tuple_spliced (thn (h.run pos pins s σ H _ I T hq) fun us s1 ⟨⟨xs, H1, I1, r, z, q⟩, T1⟩ => ⟨by rw [← r.length]; exact z, ?_⟩)
  have hf : H1 s1.heap.objs.size = none := I1.hok.fresh (Nat.le_refl _)
  refine ⟨⟨.ref s1.heap.objs.size, upd H1 s1.heap.objs.size (.tup xs), I1.laid (t' := s1.toks) (fun b u e => Heap.get?_push_of_some _ e) (Nat.le_refl _) ?_, rfl, q _ hf⟩, T1.same (fun b o e => Heap.get?_push_of_some _ e) (Nat.le_refl _)⟩
  exact ⟨z, us, r, ⟨_, Heap.get?_push_size _ rfl, rfl, _, rfl⟩⟩
/-- behind a call: the frame is as it was -/
theorem run_any {CX : CXT} {f : Addr} {E : XK} {pins : List (Addr × Obj)} {σ : St} {H : Hp} {s : Shared} {Q : VK} {us : List Value} (hx : PassesAt CX X σ E) (I : Inv X pins σ H s) (T : Tk X i s)
    (h : codeAny (model X.prog X.w) X.A (.call (.ref f) ⟨us, []⟩) (CR CX X.stack X.prog X.w H s Q E) s) : wpAny (model X.prog X.w) X.A (call (.ref f) us) (fun u s' => EP X pins σ Q u s' ∧ Tk X i s') X.xe s := by
  have q : wpAny (model X.prog X.w) X.A (call (.ref f) us) (fun u s' => CE X.stack X.prog X.w H s Q u s') X.xe s := by
    refine wpAny_call (codeAny_mono h fun r s' hq => ?_)
    cases r with
    | error e => exact hx pins H s e s' I hq
    | ok fl =>
      cases fl with
      | ret u => exact hq
      | next => exact False.elim hq
      | brk => exact False.elim hq
      | cont => exact False.elim hq
  refine wpAny_mono (wpAny_toks q) (fun u s' ⟨ht, c⟩ => ⟨I.after c, ?_⟩) fun _ _ z => z.2
  obtain ⟨v, H', _, _, un, _⟩ := c
  exact T.un I un ht
theorem pk_call {CX : CXT} {k : Nat} {f : Addr} {fd : FuncData} {ps : List Str} {sp : Sp} {E : St → XK} {x : Str} (F : FnOk X.prog X.w X.K X.mg X.base CX k f fd ps sp) (hr : Room k X.A) (hg : Gl X x) (hm : X.mg x = some (.ref f)) (hk : PySem.W.keepIn X.K (.ref f) = true) (hb : Binds X.K fd ps [])
    (hx : ∀ σ, PassesAt CX X σ (E σ)) (ha : PAt X i (e :: es) t) (hdb : (x == ("__debug__" : Str)) = false) (he : starEach (e :: es) X.env = (false, eval e X.env) :: starEach es X.env) (hpl : (backTo pos (starEach es X.env)).any (·.1) = false) :
    PEt X i (.Call (.Name x p) (e :: es) [] pos) (tCallS sp E t) := by
  refine ⟨fun pins s σ H Q I T h => ?_⟩
  refine wpAny_Call_Name_kw (ld_glob I hg hm ?_ hdb)
  refine PySem.W.callWith_K (h₀ := X.base) I.ok.mod.kin hk (thn (ha.run pos pins s σ H _ I T h) fun us s1 ⟨⟨vs, H1, I1, r, q⟩, T1⟩ => ⟨I1.kIn, ?_⟩) he hpl
  have hl : us.length = ps.length := by rw [← r.length]; exact F.len _ _ _ _ q
  have b := hb s1 us I1.kIn (by rw [List.append_nil]; exact hl)
  rw [List.append_nil] at b
  exact run_any (hx σ) I1 T1 (F.run X.A X.stack s1 H1 ⟨us, []⟩ us vs Q (E σ) hr I1.env0 b r q)
/-- f(a, x): x the name with the token -/
theorem pk_callT {CX : CXT} {k : Nat} {f : Addr} {fd : FuncData} {ps : List Str} {sp : Sp} {E : St → XK} {x y : Str} {py : Pos} (F : FnOkT X.prog X.w X.K X.mg X.base CX k f fd ps sp) (hr : Room k X.A) (hg : Gl X x) (hm : X.mg x = some (.ref f)) (hk : PySem.W.keepIn X.K (.ref f) = true) (hb : Binds X.K fd ps [])
    (hx : ∀ σ, PassesAt CX X σ (E σ)) (ha : PEt X i a ta) (hN : X.N[i]? = some y) (hv : Vis X.env.scope y) (hd : (y == ("__debug__" : Str)) = false) (hcd : (y == ("__classdict__" : Str)) = false) (hdb : (x == ("__debug__" : Str)) = false) (hs : noStar a = true) :
    PEt X i (.Call (.Name x p) [a, .Name y py] [] pos) (fun σ H Q => ta σ H fun v H1 => ∃ u, σ[i]? = some (some u) ∧ ((∃ z, u = .str z) → sp [v, u] H1 Q (E σ))) := by
  refine ⟨fun pins s σ H Q I T h => ?_⟩
  refine wpAny_Call_Name_kw (ld_glob I hg hm ?_ hdb)
  have hst : starEach [a, .Name y py] X.env = (false, eval a X.env) :: starEach [.Name y py] X.env := star_cons hs
  refine PySem.W.callWith_K (h₀ := X.base) I.ok.mod.kin hk ?_ hst rfl
  rw [hst]
  show wpAny _ _ (spliced ((false, eval a X.env) :: backTo pos (starEach [.Name y py] X.env))) _ _ s
  refine Calls.spliced_cons (thn (ha.run pins s σ H _ I T h) fun u1 s1 ⟨⟨v1, H1, I1, r1, v2, e2, q1⟩, T1⟩ => ?_)
  show wpAny _ _ (spliced ((false, eval (.Name y py) X.env) :: [])) _ _ s1
  refine Calls.spliced_cons (name_tok hN hv hd hcd I1 T1 e2 fun z tz r2 ev t0 t1 => Calls.spliced_nil ⟨I1.kIn, ?_⟩)
  have q1 := q1 ⟨z, ev⟩
  have r : Vals [v1, v2] [u1, .str z tz] := .cons r1 (.cons r2 .nil)
  have hl : ([u1, .str z tz] : List Value).length = ps.length := by rw [← r.length]; exact F.len _ _ _ _ q1
  have b := hb s1 [u1, .str z tz] I1.kIn (by rw [List.append_nil]; exact hl)
  rw [List.append_nil] at b
  exact run_any (hx σ) I1 T1 (F.run X.A X.stack s1 H1 ⟨_, []⟩ _ [v1, v2] Q (E σ) hr I1.env0 b r (fun y' t' e => by cases e; exact ⟨t0, t1⟩) q1)
end
end QB
/-! ### tokens: replace, comparisons, tests, statements -/
namespace QB
open PySem L2
/-- an operation that leaves the state -/
def OpSt (X : Cx) (f : Value → Value → Sem Value) (r : R2) : Prop := ∀ (pins : List (Addr × Obj)) (s : Shared) (σ : St) (H : Hp) (x y : V) (v u : Value) (Q : VK), Inv X pins σ H s → RelV x v → RelV y u → r x y H Q →
  wpAny (model X.prog X.w) X.A (f v u) (fun c s' => EP X pins σ Q c s' ∧ s' = s) X.xe s
section
variable {X : Cx} {i : Nat} {a b e o : Expr} {es rest : List Expr} {ta tb te to : TE} {t : TA} {pos p apos : Pos}
theorem op_eqT (hu : X.A.units + 64 < cLine) : OpSt X (compareOp .Eq) (rD X (bi2 .eq)) := by
  intro pins s σ H x y v u Q I rx ry h
  obtain ⟨Hs, d, e, sub, hd, he, h⟩ := h
  have h : PostG (fun _ _ => False) Hs H (R.when (depOk d || depOk e) (.ok (.bool (PyData.eqv d e)))) okD Q := by cases d <;> exact h
  obtain ⟨hc, h⟩ := PostG.when h
  obtain ⟨as, r1⟩ := ddReads I sub hd rx
  obtain ⟨bs, r2⟩ := ddReads I sub he ry
  exact SeqAt.compareEq_reads r1 r2 (ddLay d hd) (ddLay e he) (dep_room hu hc) ⟨⟨.bl _, H, I, rfl, h _ Hs H (Ext.refl sub) (.bl _)⟩, rfl⟩
theorem op_neT (hu : X.A.units + 64 < cLine) : OpSt X (compareOp .NotEq) (rD X (bi2 .ne)) := by
  intro pins s σ H x y v u Q I rx ry h
  obtain ⟨Hs, d, e, sub, hd, he, h⟩ := h
  have h : PostG (fun _ _ => False) Hs H (R.when (depOk d || depOk e) (.ok (.bool (!PyData.eqv d e)))) okD Q := by cases d <;> exact h
  obtain ⟨hc, h⟩ := PostG.when h
  obtain ⟨as, r1⟩ := ddReads I sub hd rx
  obtain ⟨bs, r2⟩ := ddReads I sub he ry
  exact SeqAt.compareNe_reads r1 r2 (ddLay d hd) (ddLay e he) (dep_room hu hc) ⟨⟨.bl _, H, I, rfl, h _ Hs H (Ext.refl sub) (.bl _)⟩, rfl⟩
theorem ptk_cmp {op : CmpOp} {r : R2} (ho : OpSt X (compareOp op) r) (ha : PEt X i a ta) (hb : PEt X i b tb) (hm : behindInMarks op b = false) : PTt X i (.Compare a [op] [b] pos) (tTest (tOp r ta tb)) := by
  refine ⟨fun pins s σ H Q I T h => ?_⟩
  refine wpAny_isTrue_Compare1 (thn (ha.run pins s σ H _ I T h) fun v s1 ⟨⟨x, H1, I1, r1, q1⟩, T1⟩ => thn (hb.run pins s1 σ H1 _ I1 T1 q1) fun u s2 ⟨⟨y, H2, I2, r2, q2⟩, T2⟩ =>
    thn (ho pins s2 σ H2 x y v u _ I2 r1 r2 q2) fun c s3 ⟨⟨z, H3, I3, r3, k, e, q3⟩, e3⟩ => ?_) hm
  subst e
  cases r3
  subst e3
  exact wpAny_truthy_bool ⟨⟨H3, I3, q3⟩, T2⟩
theorem pwk_or1 {tA : TT} (ha : PTt X i a tA) : PWt X i (.BoolOp .Or [a] pos) tA := by
  refine ⟨fun wh pins s σ H Q I T h => ?_⟩
  refine PyProof.Rows.isTrue_or (thn (ha.run pins s σ H Q I T h) fun c s1 e => ?_)
  cases c with
  | false => exact PyProof.Rows.isTrue_or_nil e
  | true => exact e
theorem pwk_or {tA tB' : TT} (ha : PTt X i a tA) (hb : PWt X i (.BoolOp .Or (b :: rest) pos) tB') : PWt X i (.BoolOp .Or (a :: b :: rest) pos) (tOr tA tB') := by
  refine ⟨fun wh pins s σ H Q I T h => ?_⟩
  refine PyProof.Rows.isTrue_or (thn (ha.run pins s σ H _ I T h) fun c s1 ⟨⟨H1, I1, q1⟩, T1⟩ => ?_)
  cases c with
  | true => exact ⟨⟨H1, I1, q1⟩, T1⟩
  | false => exact hb.run wh pins s1 σ H1 Q I1 T1 q1
/-- o.replace(x, '') -/
theorem pk_repl {y : Str} {py c1 : Pos} {j : Nat} (ho : PEt X i o to) (hN : X.N[i]? = some y) (hv : Vis X.env.scope y) (hd : (y == ("__debug__" : Str)) = false) (hcd : (y == ("__classdict__" : Str)) = false)
    (hbase : attributeBase o "replace" X.env (eval o X.env) = eval o X.env) (hline : (apos.endLine == pos.line) = true) :
    PEt X i (.Call (.Attribute o "replace" apos) [.Name y py, .Constant (.str "") j c1] [] pos) (fun σ H Q => to σ H fun v H1 => ∃ (x z : Str), v = .str x ∧ σ[i]? = some (some (.str z)) ∧ (z == ("" : Str)) = false ∧ x.length ≤ 1000000 ∧ Q (.str (Txt.replace x z "")) H1) := by
  refine ⟨fun pins s σ H Q I T h => ?_⟩
  refine PySem.Call_method2 hbase rfl hline (thn (ho.run pins s σ H _ I T h) fun v s1 ⟨⟨v', H1, I1, r1, x, z, e1, e2, hz, hb, q⟩, T1⟩ => ?_)
  subst e1
  obtain ⟨tx, e3⟩ := r1
  subst e3
  refine ⟨"str", _, PySem.F.plainAttrs_str, PySem.F.slot_str_replace, PySem.F.type_str_replace, typeIs_str _ _ _, (fun _ e => nomatch e), Calls.callWith_builtin rfl (Calls.evalArgs_plain (Calls.spliced_cons ?_))⟩
  refine name_tok hN hv hd hcd I1 T1 e2 fun y' ty r2 ev t0 t1 => Calls.spliced_cons (Calls.Constant_str (Calls.spliced_nil ?_))
  cases ev
  refine wpAny_mono (wpAny_toks (PySem.SC.replace (Q := fun u s' => EP X pins σ Q u s' ∧ s'.heap = s1.heap) (Nat.ne_of_gt t0) (Nat.ne_of_gt (Nat.lt_trans t0 t1)) (Nat.ne_of_lt t1) hz (by
    have : ("" : Str).length = 0 := by decide +kernel
    rw [this]; omega) fun t' k => ⟨⟨.str (Txt.replace x z ""), H1, I1.tok k, ⟨t', rfl⟩, q⟩, rfl⟩)) (fun u s' ⟨ht, h1, h2⟩ => ⟨h1, T1.same (fun b o e => by rw [h2]; exact e) (Nat.le_trans (Nat.le_succ _) ht)⟩) fun _ _ z => z.2
end
/-! #### statements -/
structure PSt (X : Cx) (i : Nat) (st : Stmt) (t : TS) : Prop where
  run : ∀ (pins : List (Addr × Obj)) (s : Shared) (σ : St) (H : Hp) (D : Ends), Inv X pins σ H s → Tk X i s → t D σ H → wpAny (model X.prog X.w) X.A (exec st X.env) (fun f s' => SP X pins D f s' ∧ (f = .next → Tk X i s')) X.xe s
/-- behind the suite the token is no longer told -/
structure PSst (X : Cx) (i : Nat) (st : List Stmt) (t : TS) : Prop where
  run : ∀ (pins : List (Addr × Obj)) (s : Shared) (σ : St) (H : Hp) (D : Ends), Inv X pins σ H s → Tk X i s → t D σ H → wpAny (model X.prog X.w) X.A (execs st X.env) (SP X pins D) X.xe s
section
variable {X : Cx} {i : Nat} {a b e o : Expr} {st : Stmt} {sts : List Stmt} {ta tb te : TE} {t u : TS} {pos p : Pos}
theorem psk_std (h : PSs X sts t) : PSst X i sts t := ⟨fun pins s σ H D I _ q => h.run pins s σ H D I q⟩
theorem psk_cons (h : PSt X i st t) (hr : PSst X i sts u) : PSst X i (st :: sts) (tSeq t u) := by
  refine ⟨fun pins s σ H D I T q => ?_⟩
  refine wpAny_execs_cons (thn (h.run pins s σ H _ I T q) fun f s1 ⟨q1, T1⟩ => ?_)
  cases f with
  | next => obtain ⟨σ1, H1, I1, n1⟩ := q1; exact hr.run pins s1 σ1 H1 D I1 (T1 rfl) n1
  | brk => exact q1
  | cont => exact q1
  | ret v => exact q1
theorem psk_evl (he : PEt X i e te) (hs : swapsWith e none pos.line X.env = pure false) : PSt X i (.Expr e pos) (tDrop te) := by
  refine ⟨fun pins s σ H D I T h => ?_⟩
  exact wpAny_Expr_any (thn (he.run pins s σ H _ I T h) fun v s1 ⟨⟨x, H1, I1, r1, q1⟩, T1⟩ => ⟨⟨σ, H1, I1, q1⟩, fun _ => T1⟩) I.quiet hs
theorem psk_ret (he : PEt X i e te) : PSt X i (.Return (some e) pos) (tRet te) := by
  refine ⟨fun pins s σ H D I T h => ?_⟩
  exact wpAny_Return_some (thn (he.run pins s σ H _ I T h) fun v s1 ⟨⟨x, H1, I1, r1, q1⟩, T1⟩ => ⟨⟨x, σ, H1, I1, r1, q1⟩, fun z => nomatch z⟩)
/-- if c: (a suite that ends the def) -/
theorem psk_if {c : Expr} {l : List Stmt} {tc : TT} (hc : PTt X i c tc) (ha : PSs X l t) : PSt X i (.If c l [] pos) (fun D σ H => tc σ H fun k H1 => if k = true then t { D with nx := fun _ _ => False } σ H1 else D.nx σ H1) := by
  refine ⟨fun pins s σ H D I T h => ?_⟩
  refine wpAny_If (thn (hc.run pins s σ H _ I T h) fun d s1 ⟨⟨H1, I1, q1⟩, T1⟩ => ?_)
  cases d with
  | true =>
    refine thn (ha.run pins s1 σ H1 _ I1 q1) fun f s2 q2 => ?_
    cases f with
    | next => obtain ⟨_, _, _, z⟩ := q2; exact z.elim
    | brk => exact ⟨q2, fun z => nomatch z⟩
    | cont => exact ⟨q2, fun z => nomatch z⟩
    | ret v => exact ⟨q2, fun z => nomatch z⟩
  | false => exact wpAny_execs_nil ⟨⟨σ, H1, I1, q1⟩, fun _ => T1⟩
/-- another name, a plain local, is stored -/
theorem storeT {M : Model} {A : Around} {E : Value → Shared → Prop} {pins : List (Addr × Obj)} {σ : St} {H : Hp} {s : Shared} {j : Nat} {y : Str} {v : V} {u : Value} {Q : Unit → Shared → Prop} (I : Inv X pins σ H s) (T : Tk X i s) (hN : X.N.Nodup) (hj : X.N[j]? = some y) (hy : X.env.scope.names.lookup y = some .local) (hij : i ≠ j) (r : RelV v u)
    (h : ∀ s', Inv X pins (σ.set j (some v)) H s' → Tk X i s' → Q () s') : wpAny M A (storeName X.env y u) Q E s := by
  obtain ⟨x, z, t, m, h1, h2, h3, h4, h5⟩ := T
  have hxy : x ≠ y := fun q => hij (nodup_ix hN h1 (q ▸ hj))
  have hcls : (X.env.scope.kind == .class || (X.env.scope.kind == .module && X.env.locals != X.env.globals)) = false := by rw [I.ok.kind]; rfl
  have w1 : wpAny M A (storeName X.env y u) (fun _ s' => Inv X pins (σ.set j (some v)) H s') E s := store_ok I hN hj (.inl hy) r (fun s' I' => I') (.inr hy)
  have w2 : wpAny M A (storeName X.env y u) (fun _ s' => Tk X i s') E s := wpAny_storeName_local hy h2 (fun h' hn' hs => by
    refine ⟨x, z, t, _, h1, hn', ?_, h4, Nat.lt_succ_of_lt h5⟩
    rcases h3 with ⟨k, q⟩ | ⟨k, c, e, hc⟩
    · exact .inl ⟨k, by simp [hxy, q]⟩
    · exact .inr ⟨k, c, e, hc.sameBut hs (I.cne x c e)⟩) hcls
  exact wpAny_mono (wpAny_and w1 w2) (fun _ s' ⟨a, b⟩ => h s' a b) fun _ _ z => z.1
theorem psk_set {j : Nat} {y : Str} {py : Pos} (hN : X.N.Nodup) (hj : X.N[j]? = some y) (hy : X.env.scope.names.lookup y = some .local) (hij : i ≠ j) (he : PEt X i e te) (hs : swapsWith e (some (.Name y py)) pos.line X.env = pure false) :
    PSt X i (.Assign [.Name y py] e pos) (tAsg te (gName j)) := by
  refine ⟨fun pins s σ H D I T h => ?_⟩
  refine wpAny_Assign_Name (thn (he.run pins s σ H _ I T h) fun v s1 ⟨⟨x, H1, I1, r1, q1⟩, T1⟩ => ?_) hs
  exact storeT I1 T1 hN hj hy hij r1 fun s2 I2 T2 => ⟨⟨_, H1, I2, q1⟩, fun _ => T2⟩
end
end QB
/-! ### tokens: targets, loops over a text, defs -/
namespace QB
open PySem L2
structure PGst (X : Cx) (i : Nat) (ts : List Expr) (t : TGs) : Prop where
  run : ∀ (pins : List (Addr × Obj)) (s : Shared) (σ : St) (H : Hp) (vs : List V) (us : List Value) (Q : St → Hp → Prop), Inv X pins σ H s → Tk X i s → Vals vs us → t vs σ H Q →
    wpAny (model X.prog X.w) X.A (assignInOrder ((assignEach ts X.env).map (·.2)) us) (fun _ s' => ∃ σ' H', Inv X pins σ' H' s' ∧ Q σ' H' ∧ Tk X i s') X.xe s
section
variable {X : Cx} {i : Nat} {a b e : Expr} {es : List Expr} {te : TE} {t : TGs} {pos p : Pos}
theorem pgk_nil : PGst X i [] gNil := by
  refine ⟨fun pins s σ H vs us Q I T r h => ?_⟩
  obtain ⟨e, h⟩ := h
  subst e
  cases r
  exact PyProof.Rows.assignInOrder_nil ⟨σ, H, I, h, T⟩
theorem pgk_cons {j : Nat} {y : Str} (hN : X.N.Nodup) (hj : X.N[j]? = some y) (hy : X.env.scope.names.lookup y = some .local) (hij : i ≠ j) (h2 : PGst X i es t) : PGst X i (.Name y p :: es) (gCons (gName j) t) := by
  refine ⟨fun pins s σ H vs us Q I T r h => ?_⟩
  obtain ⟨v, vr, e1, h⟩ := h
  subst e1
  cases r with
  | cons r rr =>
    show wpAny _ _ (assignInOrder (assign (.Name y p) X.env :: (assignEach es X.env).map (·.2)) _) _ _ s
    refine PyProof.Rows.assignInOrder_cons (wpAny_assign_Name (storeT I T hN hj hy hij r fun s1 I1 T1 => ?_))
    exact h2.run pins s1 _ H _ _ Q I1 T1 rr h
theorem psk_unp {k n : Nat} {tp : Pos} (hc : X.calm = true) (he : PEt X i e te) (hg : PGst X i es t) (hn : (assignEach es X.env).length = n) (hst : (assignEach es X.env).findIdx? (·.1) = none)
    (hs : swapsWithSole [.Tuple es k tp] e pos.line X.env = pure false) (hw : swappedStores [.Tuple es k tp] e X.env = pure none) : PSt X i (.Assign [.Tuple es k tp] e pos) (tAsg te (gTup X.K n t)) := by
  refine ⟨fun pins s σ H D I T h => ?_⟩
  refine wpAny_Assign_stores (thn (he.run pins s σ H _ I T h) fun v s1 ⟨⟨x, H1, I1, r1, q1⟩, T1⟩ => ?_) hs hw
  obtain ⟨b, xs, e1, hq, hl, hw⟩ := q1
  subst e1
  cases r1
  obtain ⟨its, rv, ht, hz⟩ := I1.tuple hq
  show wpAny _ _ (assign (.Tuple es k tp) X.env (.ref b)) _ _ s1
  refine PyProof.Rows.assign_Tuple_tuple (I.ok.hd hc) ht (by simp [hn, ← hl, rv.length]) hst fun h' hx => ?_
  have I2 : Inv X pins σ H1 { s1 with heap := h' } := I1.kept (t' := s1.toks) fun b o e => hx b o (Nat.ne_of_lt (Heap.lt_size e)) e
  have T2 : Tk X i { s1 with heap := h' } := T1.same (fun b o e => hx b o (Nat.ne_of_lt (Heap.lt_size e)) e) (Nat.le_refl _)
  exact thn (hg.run pins _ σ H1 xs _ _ I2 T2 (by simpa using rv) hw) fun _ s3 ⟨σ3, H3, I3, q3, T3⟩ => ⟨⟨σ3, H3, I3, q3⟩, fun _ => T3⟩
/-- x, y = a, b: plain locals, stored from the right -/
theorem psk_par {j l : Nat} {x y : Str} {ta : TA} {px py pt : Pos} {kt k2 : Nat} {pt2 : Pos} (hc : X.calm = true) (hN : X.N.Nodup) (hi : X.N[j]? = some x) (hj : X.N[l]? = some y) (hij : j ≠ l) (n1 : i ≠ j) (n2 : i ≠ l)
    (hx : X.env.scope.names.lookup x = some .local) (hy : X.env.scope.names.lookup y = some .local) (ha : PAt X i [a, b] ta)
    (hw : swappedStores [.Tuple [.Name x px, .Name y py] kt pt] (.Tuple [a, b] k2 pt2) X.env = pure (some [x, y]))
    (hs : swapsWithSole [.Tuple [.Name x px, .Name y py] kt pt] (.Tuple [a, b] k2 pt2) pos.line X.env = pure false) :
    PSt X i (.Assign [.Tuple [.Name x px, .Name y py] kt pt] (.Tuple [a, b] k2 pt2) pos) (tPar j l ta) := by
  refine ⟨fun pins s σ H D I T h => ?_⟩
  rw [exec_Assign_arm]
  refine wpAny_bind (wpAny_standAt ?_)
  rw [hs]
  refine wpAny_bind (wpAny_pure ?_)
  rw [if_neg (by decide)]
  refine wpAny_bind (PyProof.Rows.Tuple_ (thn (ha.run _ pins s σ H _ I T h) fun us s1 ⟨⟨vs, H1, I1, r1, v, w, e1, q1⟩, T1⟩ => ?_))
  subst e1
  obtain ⟨u1, u2, rfl, rv, rw'⟩ : ∃ u1 u2, us = [u1, u2] ∧ RelV v u1 ∧ RelV w u2 := by
    cases r1 with
    | cons p q =>
      cases q with
      | cons p' q' =>
        cases q'
        exact ⟨_, _, rfl, p, p'⟩
  refine wpAny_newObj_type ?_ (by show 2 ≤ sizeLine; decide)
  have I2 : Inv X pins σ H1 { s1 with heap := s1.heap.push { cls := .type "tuple", data := .seq [u1, u2].toArray } } := I1.kept (t' := s1.toks) fun b o e => Heap.get?_push_of_some _ e
  have T2 : Tk X i { s1 with heap := s1.heap.push { cls := .type "tuple", data := .seq [u1, u2].toArray } } := T1.same (fun b o e => Heap.get?_push_of_some _ e) (Nat.le_refl _)
  rw [hw]
  refine wpAny_bind (wpAny_pure ?_)
  show wpAny (model X.prog X.w) X.A (do rule "assign.swapped-stores"; let items ← unpackItems (.ref s1.heap.objs.size) 2 none; assignInOrder [fun v => bindName X.env y v, fun v => bindName X.env x v] items.reverse; pure Flow.next) _ _ _
  refine wpAny_bind (wpAny_rule (wpAny_bind (PyProof.Rows.unpackItems_tuple (items := #[u1, u2]) (I.ok.hd hc) (PyProof.Rows.IsTup.new s1.heap _) fun h' hx' => ?_)))
  have I3 := I2.kept (h' := h') (t' := s1.toks) fun b o e => hx' b o (Nat.ne_of_lt (Heap.lt_size e)) e
  have T3 := T2.same (s' := { s1 with heap := h' }) (fun b o e => hx' b o (Nat.ne_of_lt (Heap.lt_size e)) e) (Nat.le_refl _)
  show wpAny _ _ (assignInOrder [fun v => bindName X.env y v, fun v => bindName X.env x v] [u2, u1] >>= fun _ => pure Flow.next) _ _ _
  refine wpAny_bind (PyProof.Rows.assignInOrder_cons (wpAny_bindName (storeT I3 T3 hN hj hy n2 rw' fun s2 I4 T4 => ?_)))
  refine PyProof.Rows.assignInOrder_cons (wpAny_bindName (storeT I4 T4 hN hi hx n1 rv fun s3 I5 T5 => PyProof.Rows.assignInOrder_nil (wpAny_pure ?_)))
  rw [List.set_comm _ _ (Ne.symm hij)] at I5
  exact ⟨⟨_, H1, I5, q1⟩, fun _ => T5⟩
end
/-! #### a loop over a text -/
section
variable {X : Cx} {i j : Nat} {iter : Expr} {body : List Stmt} {tb : TS} {y : Str} {py pos : Pos}
/-- the name is stored, its token out already -/
theorem store_tk {M : Model} {A : Around} {E : Value → Shared → Prop} {pins : List (Addr × Obj)} {σ : St} {H : Hp} {s : Shared} {z : Str} {t : Tok} {Q : Unit → Shared → Prop} (I : Inv X pins σ H s) (hN : X.N.Nodup) (hj : X.N[j]? = some y) (hy : Loc X.env.scope y)
    (hf : X.fn y = true ∨ X.env.scope.names.lookup y = some .local) (t0 : 0 < t) (t1 : t < s.toks) (h : ∀ s', Inv X pins (σ.set j (some (.str z))) H s' → Tk X j s' → Q () s') : wpAny M A (storeName X.env y (.str z t)) Q E s := by
  have hcls : (X.env.scope.kind == .class || (X.env.scope.kind == .module && X.env.locals != X.env.globals)) = false := by rw [I.ok.kind]; rfl
  obtain ⟨m, hn, _⟩ := id I.loc
  have w1 : wpAny M A (storeName X.env y (.str z t)) (fun _ s' => Inv X pins (σ.set j (some (.str z))) H s') E s := store_ok (v := .str z) I hN hj hy ⟨t, rfl⟩ (fun s' I' => I') hf
  have w2 : wpAny M A (storeName X.env y (.str z t)) (fun _ s' => Tk X j s') E s := by
    rcases hy with hk | hk
    · exact wpAny_storeName_local hk hn (fun h' hn' hs => ⟨y, z, t, _, hj, hn', .inl ⟨hk, by simp⟩, t0, Nat.lt_succ_of_lt t1⟩) hcls
    · obtain ⟨c, hc⟩ := I.ok.has y (.inl hk)
      obtain ⟨w', zz⟩ := I.cell y c hc
      exact wpAny_storeName_cell I.ok.kind hk hc zz fun h' hc' hs => ⟨y, z, t, m, hj, hn.sameBut hs (Ne.symm (I.cne y c hc)), .inr ⟨.inl hk, c, hc, hc'⟩, t0, t1⟩
  exact wpAny_mono (wpAny_and w1 w2) (fun _ s' ⟨a, b⟩ => h s' a b) fun _ _ z => z.1
theorem next_item {prog : Program} {w : World} {A : Around} {E : Value → Shared → Prop} {s : Shared} {it : Addr} {x : Str} {t : Tok} {i c : Nat} {Q : Option Value → Shared → Prop} (hit : s.heap.IsStrIter it (strIterType x) x t i) (hx : x.cps[i]? = some c)
    (hQ : ∀ h', h'.IsStrIter it (strIterType x) x t (i + 1) → Heap.SameBut it s.heap h' → Q (some (.str ⟨#[c]⟩ s.toks)) { s with heap := h', toks := s.toks + 1 }) : wpAny (model prog w) A (pyNext (.ref it)) Q E s := by
  unfold strIterType at hit hQ
  split at hit
  · rename_i h; rw [if_pos h] at hQ; exact wpAny_pyNext_ascii_item hit hx hQ
  · rename_i h; rw [if_neg h] at hQ; exact wpAny_pyNext_wide_item hit hx hQ
theorem next_end {prog : Program} {w : World} {A : Around} {E : Value → Shared → Prop} {s : Shared} {it : Addr} {x : Str} {t : Tok} {i : Nat} {Q : Option Value → Shared → Prop} (hh : A.handled = none) (hit : s.heap.IsStrIter it (strIterType x) x t i) (hx : x.cps[i]? = none)
    (hQ : ∀ h', Heap.ExtBut it s.heap h' → Q none { s with heap := h' }) : wpAny (model prog w) A (pyNext (.ref it)) Q E s := by
  unfold strIterType at hit
  split at hit
  · exact wpAny_pyNext_ascii_end hh hit hx hQ
  · exact wpAny_pyNext_wide_end hh hit hx hQ
/-- what is wanted of a loop over the text x -/
def LoopT (x : Str) (j : Nat) (tb : TS) (D : Ends) (σ : St) (H : Hp) : Prop := ∃ W : Nat → St → Hp → Prop, W 0 σ H ∧ (∀ k c σ H, x.cps[k]? = some c → W k σ H → tb { D with nx := W (k + 1), ct := W (k + 1), bk := D.nx } (σ.set j (some (.str ⟨#[c]⟩))) H) ∧ ∀ σ H, W x.cps.size σ H → D.nx σ H
theorem loop_str (hp : PassesOwn (model X.prog X.w) X.A X.env X.xe) (hc : X.calm = true) (hN : X.N.Nodup) (hj : X.N[j]? = some y) (hy : Loc X.env.scope y) (hf : X.fn y = true ∨ X.env.scope.names.lookup y = some .local) (hb : PSst X j body tb)
    {pins : List (Addr × Obj)} {σ : St} {H : Hp} {s : Shared} {D : Ends} {x : Str} {t : Tok} (I : Inv X pins σ H s) (h1 : 1 ≤ s.toks) (h : LoopT x j tb D σ H) :
    wpAny (model X.prog X.w) X.A (pyIter (.str x t)) (fun it s2 => codeAny (model X.prog X.w) X.A (.forLoop (.Name y py) it body [] X.env) (fun r s' => match r with | .ok f => SP X pins D f s' | .error e => cameBackBy (model X.prog X.w) X.A X.env X.xe e s') s2) X.xe s := by
  obtain ⟨W, w0, step, last⟩ := h
  refine wpAny_pyIter_strU ?_
  have hTn : ["enumerate", "zip", "dict_itemiterator", "dict_reverseitemiterator", "odict_iterator", "itertools.zip_longest", "itertools.pairwise"].contains (strIterType x) = false := by unfold strIterType; split <;> decide
  generalize hit : s.heap.objs.size = it
  have I2 : Inv X pins σ H { s with heap := s.heap.push { cls := .type (strIterType x), data := .fields #[.str x t, .int 0 0] } } := I.kept (t' := s.toks) fun b o e => Heap.get?_push_of_some _ e
  have f2 : FpOk X pins H it := I.fpOk (Nat.le_of_eq hit) (I.hok.fresh (Nat.le_of_eq hit))
  have st2 : (s.heap.push { cls := .type (strIterType x), data := .fields #[.str x t, .int 0 0] }).IsStrIter it (strIterType x) x t 0 := by
    rw [← hit]; exact ⟨_, Heap.get?_push_size _ rfl, rfl, rfl⟩
  have stat : ∀ {H' : Hp}, H' it = none → FpOk X pins H' it := fun hn => ⟨hn, f2.2⟩
  refine codeAny_forLoop_any (fun n s' => ∃ k σ' H', n = x.cps.size - k ∧ k ≤ x.cps.size ∧ Inv X pins σ' H' s' ∧ s'.heap.IsStrIter it (strIterType x) x t k ∧ H' it = none ∧ 1 ≤ s'.toks ∧ W k σ' H') ?_ x.cps.size ⟨0, σ, H, by simp, Nat.zero_le _, I2, st2, f2.1, h1, w0⟩
  rintro n s3 ⟨k, σ3, H3, rfl, hk, I3, st3, fr3, tk3, w3⟩
  obtain ⟨f0, f1, f2', f3, f4, f5⟩ := stat fr3
  by_cases hlt : k < x.cps.size
  · have hcx : x.cps[k]? = some x.cps[k] := by simp [hlt]
    refine wpAny_passesOwn hp (next_item st3 hcx fun h' st' sb => ?_)
    have kk : ∀ b o, b ≠ it → s3.heap.get? b = some o → h'.get? b = some o := fun b o hb e => (sb.2 b hb).trans e
    have I4 : Inv X pins σ3 H3 { s3 with heap := h', toks := s3.toks + 1 } := I3.turned kk f0 f1 f3 f4 f5
    obtain ⟨oi, ei, cc, dd⟩ := id st'
    refine wpAny_passesOwn hp (go_of (s := { s3 with heap := h', toks := s3.toks + 1 }) ei cc dd hTn ?_)
    have I5 : Inv X (pins ++ [(it, oi)]) σ3 H3 { s3 with heap := h', toks := s3.toks + 1 } := I4.pins_of fun p hp => (List.mem_append.mp hp).elim (fun z => I4.pin p (List.mem_append_right _ z)) fun z => by
      rw [List.mem_singleton.mp z]
      exact ⟨ei, f0, f1, f2', fun v q => by rw [dd] at q; cases q⟩
    refine wpAny_passesOwn hp (wpAny_assign_Name (store_tk I5 hN hj hy hf (z := ⟨#[x.cps[k]]⟩) (t := s3.toks) tk3 (Nat.lt_succ_self _) fun s6 I6 T6 => ?_))
    have t6 : 1 ≤ s6.toks := by
      obtain ⟨_, _, t, _, _, _, _, a, b⟩ := T6
      exact Nat.le_of_lt (Nat.lt_of_le_of_lt a b)
    refine wpAny_passesOwn hp (wpAny_mono (wpAny_toks_of t6 (hb.run _ s6 _ H3 { D with nx := W (k + 1), ct := W (k + 1), bk := D.nx } I6 T6 (step k x.cps[k] σ3 H3 hcx w3))) (fun f s7 ⟨tk7, q7⟩ => ?_) fun _ _ z => z.2)
    have again : ∀ {σ7 : St} {H7 : Hp}, Inv X (pins ++ [(it, oi)]) σ7 H7 s7 → W (k + 1) σ7 H7 → ∃ m, m < x.cps.size - k ∧ ∃ k' σ' H', m = x.cps.size - k' ∧ k' ≤ x.cps.size ∧ Inv X pins σ' H' s7 ∧ s7.heap.IsStrIter it (strIterType x) x t k' ∧ H' it = none ∧ 1 ≤ s7.toks ∧ W k' σ' H' := fun {σ7 H7} I7 n7 => by
      obtain ⟨e7, n, _⟩ := I7.pin (it, oi) (by simp)
      exact ⟨x.cps.size - (k + 1), by omega, k + 1, σ7, H7, rfl, hlt, I7.unpinned, ⟨oi, e7, cc, dd⟩, n, tk7, n7⟩
    cases f with
    | next => obtain ⟨σ7, H7, I7, n7⟩ := q7; exact again I7 n7
    | cont => obtain ⟨σ7, H7, I7, n7⟩ := q7; exact again I7 n7
    | brk => obtain ⟨σ7, H7, I7, q7⟩ := q7; exact ⟨σ7, H7, I7.unpinned, q7⟩
    | ret v => obtain ⟨x7, σ7, H7, I7, r7, q7⟩ := q7; exact ⟨x7, σ7, H7, I7.unpinned, r7, q7⟩
  · have hx : x.cps[k]? = none := Array.getElem?_eq_none (by omega)
    refine wpAny_passesOwn hp (next_end (I.ok.hd hc) st3 hx fun h' eb => ?_)
    have I4 : Inv X pins σ3 H3 { s3 with heap := h' } := I3.turned (t' := s3.toks) (fun b o hb e => eb b o hb e) f0 f1 f3 f4 f5
    have ek : k = x.cps.size := by omega
    subst ek
    exact wpAny_passesOwn hp (wpAny_execs_nil ⟨σ3, H3, I4, last σ3 H3 w3⟩)
def tForT (te : TE) (j : Nat) (tb : TS) : TS := fun D σ H => te σ H fun v H1 => ∃ x, v = .str x ∧ LoopT x j tb D σ H1
/-- within a suite of tokens: behind it the token is no longer told -/
structure PSd (X : Cx) (i : Nat) (st : Stmt) (t : TS) : Prop where
  run : ∀ (pins : List (Addr × Obj)) (s : Shared) (σ : St) (H : Hp) (D : Ends), Inv X pins σ H s → Tk X i s → t D σ H → wpAny (model X.prog X.w) X.A (exec st X.env) (SP X pins D) X.xe s
theorem psd_for {te : TE} (hp : PassesOwn (model X.prog X.w) X.A X.env X.xe) (hc : X.calm = true) (hN : X.N.Nodup) (hj : X.N[j]? = some y) (hy : Loc X.env.scope y) (hf : X.fn y = true ∨ X.env.scope.names.lookup y = some .local) (hi : PEt X i iter te) (hb : PSst X j body tb)
    (hs : ∀ x, foldedSetIterable iter X.env x = pure x) : PSd X i (.For (.Name y py) iter body [] pos) (tForT te j tb) := by
  refine ⟨fun pins s σ H D I T h => ?_⟩
  refine wpAny_For (thn (hi.run pins s σ H _ I T h) fun v s1 ⟨⟨v', H1, I1, r1, x, e1, q1⟩, T1⟩ => ?_) hs
  subst e1
  obtain ⟨tx, rfl⟩ := r1
  have t1 : 1 ≤ s1.toks := by
    obtain ⟨_, _, t, _, _, _, _, a, b⟩ := T1
    exact Nat.le_of_lt (Nat.lt_of_le_of_lt a b)
  exact loop_str hp hc hN hj hy hf hb I1 t1 q1
theorem psd_cons {st : Stmt} {sts : List Stmt} {t u : TS} (h : PSd X i st t) (hr : PSs X sts u) : PSst X i (st :: sts) (tSeq t u) := by
  refine ⟨fun pins s σ H D I T q => ?_⟩
  refine wpAny_execs_cons (thn (h.run pins s σ H _ I T q) fun f s1 q1 => ?_)
  cases f with
  | next => obtain ⟨σ1, H1, I1, n1⟩ := q1; exact hr.run pins s1 σ1 H1 D I1 n1
  | brk => exact q1
  | cont => exact q1
  | ret v => exact q1
/-! #### suites where a token at least is out -/
structure PS1 (X : Cx) (st : Stmt) (t : TS) : Prop where
  run : ∀ (pins : List (Addr × Obj)) (s : Shared) (σ : St) (H : Hp) (D : Ends), Inv X pins σ H s → 1 ≤ s.toks → t D σ H → wpAny (model X.prog X.w) X.A (exec st X.env) (SP X pins D) X.xe s
structure PSs1 (X : Cx) (st : List Stmt) (t : TS) : Prop where
  run : ∀ (pins : List (Addr × Obj)) (s : Shared) (σ : St) (H : Hp) (D : Ends), Inv X pins σ H s → 1 ≤ s.toks → t D σ H → wpAny (model X.prog X.w) X.A (execs st X.env) (SP X pins D) X.xe s
theorem ps1_of {st : Stmt} {t : TS} (h : PS X st t) : PS1 X st t := ⟨fun pins s σ H D I _ q => h.run pins s σ H D I q⟩
theorem pss1_of {st : List Stmt} {t : TS} (h : PSs X st t) : PSs1 X st t := ⟨fun pins s σ H D I _ q => h.run pins s σ H D I q⟩
theorem pss1_cons {st : Stmt} {sts : List Stmt} {t u : TS} (h : PS1 X st t) (hr : PSs1 X sts u) : PSs1 X (st :: sts) (tSeq t u) := by
  refine ⟨fun pins s σ H D I t1 q => ?_⟩
  refine wpAny_execs_cons (wpAny_mono (wpAny_toks_of t1 (h.run pins s σ H _ I t1 q)) (fun f s1 ⟨tk, q1⟩ => ?_) fun _ _ z => z.2)
  cases f with
  | next => obtain ⟨σ1, H1, I1, n1⟩ := q1; exact hr.run pins s1 σ1 H1 D I1 tk n1
  | brk => exact q1
  | cont => exact q1
  | ret v => exact q1
theorem ps1_for {te : TE} (hp : PassesOwn (model X.prog X.w) X.A X.env X.xe) (hc : X.calm = true) (hN : X.N.Nodup) (hj : X.N[j]? = some y) (hy : Loc X.env.scope y) (hf : X.fn y = true ∨ X.env.scope.names.lookup y = some .local) (hi : PE X iter te) (hb : PSst X j body tb)
    (hs : ∀ x, foldedSetIterable iter X.env x = pure x) : PS1 X (.For (.Name y py) iter body [] pos) (tForT te j tb) := by
  refine ⟨fun pins s σ H D I t1 h => ?_⟩
  refine wpAny_For (wpAny_mono (wpAny_toks_of t1 (hi.run pins s σ H _ I h)) (fun v s1 ⟨tk, v', H1, I1, r1, x, e1, q1⟩ => ?_) fun _ _ z => z.2) hs
  subst e1
  obtain ⟨tx, rfl⟩ := r1
  exact loop_str hp hc hN hj hy hf hb I1 tk q1
/-- over a written text: no token need be out -/
theorem ps_forC {z : Str} {kz : Nat} {pz : Pos} (hp : PassesOwn (model X.prog X.w) X.A X.env X.xe) (hc : X.calm = true) (hN : X.N.Nodup) (hj : X.N[j]? = some y) (hy : Loc X.env.scope y) (hf : X.fn y = true ∨ X.env.scope.names.lookup y = some .local) (hb : PSst X j body tb)
    (hs : ∀ x, foldedSetIterable (.Constant (.str z) kz pz) X.env x = pure x) : PS X (.For (.Name y py) (.Constant (.str z) kz pz) body [] pos) (fun D σ H => LoopT z j tb D σ H) := by
  refine ⟨fun pins s σ H D I h => ?_⟩
  refine wpAny_For (Calls.Constant_str ?_) hs
  exact loop_str hp hc hN hj hy hf hb (I.tok _) (Nat.succ_le_succ (Nat.zero_le _)) h
/-- name = e, the first statement: behind it a token is out -/
theorem pss_first {e : Expr} {te : TE} {sts : List Stmt} {u : TS} (hN : X.N.Nodup) (hj : X.N[j]? = some y) (hy : X.env.scope.names.lookup y = some .local) (he : PE X e te) (hs : swapsWith e (some (.Name y py)) pos.line X.env = pure false) (hr : PSs1 X sts u) :
    PSs X (.Assign [.Name y py] e pos :: sts) (tSeq (tAsg te (gName j)) u) := by
  refine ⟨fun pins s σ H D I h => ?_⟩
  refine wpAny_execs_cons (wpAny_Assign_Name (thn (he.run pins s σ H _ I h) fun v s1 ⟨x, H1, I1, r1, q1⟩ => ?_) hs)
  obtain ⟨m, hn, _⟩ := id I1.loc
  have hcls : (X.env.scope.kind == .class || (X.env.scope.kind == .module && X.env.locals != X.env.globals)) = false := by rw [I.ok.kind]; rfl
  have w1 : wpAny (model X.prog X.w) X.A (storeName X.env y v) (fun _ s' => Inv X pins (σ.set j (some x)) H1 s') X.xe s1 := store_ok I1 hN hj (.inl hy) r1 (fun s' I' => I') (.inr hy)
  have w2 : wpAny (model X.prog X.w) X.A (storeName X.env y v) (fun _ s' => 1 ≤ s'.toks) X.xe s1 := wpAny_storeName_local hy hn (fun h' _ _ => Nat.succ_le_succ (Nat.zero_le _)) hcls
  exact wpAny_mono (wpAny_and w1 w2) (fun _ s2 ⟨I2, t2⟩ => hr.run pins s2 _ H1 D I2 t2 q1) fun _ _ z => z.1
end
/-! #### a def whose second parameter bears a token -/
open PyProof.Rows in
theorem fn_ofT {CX : CXT} {P : Program} {w : World} {K : PySem.W.Frag} {mg : Str → Option Value} {base : Heap} {k : Nat} {f : Addr} {name qual : Str} {params : Arguments} {body : List Stmt} {scope : Scope} {dV kV doc pm cdv ct oc : Value} {an od : Option Addr}
    {osl : Array (Option Value)} {N ps : List Str} {sp : Sp} {y : Str} (lk : K.lookup f = some ⟨oc, od, .func (PySem.W.fnOf name qual params body scope dV kV doc pm an cdv ct), osl⟩) (hcd : PySem.W.codeIn K cdv qual = true) (S : FnScope N ps scope)
    (len : ∀ vs H Q E, sp vs H Q E → vs.length = ps.length) (hy : ps[1]? = some y) (hyl : scope.names.lookup y = some .local) (hstr : ∀ vs H Q E, sp vs H Q E → ∃ z, vs[1]? = some (.str z))
    (hbody : ∀ (A : Around) (outer : List PySem.Env) (s : Shared) (H : Hp) (vs : List V) (Q : VK) (E : XK), Room k (A.deeper (envOfC qual scope s.heap.objs.size f cdv)) → sp vs H Q E →
      ∃ t, PSst (cxOf CX P w K mg base N qual scope f cdv A outer s H E) 1 body t ∧ t { nx := fun _ H' => Q .non H', rt := Q } (start N vs) H) :
    FnOkT P w K mg base CX (k + 1) f (PySem.W.fnOf name qual params body scope dV kV doc pm an cdv ct) ps sp := by
  refine ⟨len, fun A outer s H args us vs Q E hr e0 hb r htok hsp => ?_⟩
  have hl := len _ _ _ _ hsp
  have KX : K.In s.heap := e0.mod.kin.keeps fun b o e => (e0.bs b o e).1
  have lim : s.heap.NoLimit := e0.mod.nolimit.keeps fun b o e => (e0.bs b o e).1
  have hkind : ∀ y ∈ ps.zip us, scope.names.lookup y.1 = some .local ∨ (scope.names.lookup y.1 = some .cell ∧ ((cellsFrom (s.heap.objs.size + 1) scope.names []).lookup y.1).isSome = true) := fun ⟨n, v⟩ hy => by
    rcases S.par n (List.of_mem_zip hy).1 with q | q
    · exact .inl q
    · exact .inr ⟨q, PySem.W.cellsFrom_some _ _ _ (.inl q)⟩
  refine codeAny_call_function hr.depth (KX _ _ lk) rfl S.co S.gen rfl (PySem.W.codeRec_of KX hcd) (hb _ _ _ _ ?_)
  refine wpAny_mono (wpAny_toks (wpAny_newFunctionEnv_cells (Q := fun env s1 => env = envOfC qual scope s.heap.objs.size f cdv ∧ InCallC s s.heap.objs.size (bindL (envOfC qual scope s.heap.objs.size f cdv).kindOf (ps.zip us) fun _ => none) (cellsFrom (s.heap.objs.size + 1) scope.names []) (bindC (envOfC qual scope s.heap.objs.size f cdv).kindOf (ps.zip us) fun _ => none) s1) S.kind hkind fun env he s1 x => ⟨he, by subst he; exact x⟩)) (fun env s1 ⟨ht, he, x⟩ => ?_) fun _ _ z => z.2
  subst he
  refine ⟨lim.keeps x.toInCall.keep, codeAny_func ?_⟩
  obtain ⟨t, ht', hq⟩ := hbody A outer s H vs Q E (hr.deeper _) hsp
  have I : Inv (cxOf CX P w K mg base N qual scope f cdv A outer s H E) [] (start N vs) H s1 := inv_start S hr.hd e0 hl r x
  have T : Tk (cxOf CX P w K mg base N qual scope f cdv A outer s H E) 1 s1 := by
    obtain ⟨z, hz⟩ := hstr _ _ _ _ hsp
    obtain ⟨u, hu, rv⟩ := r.get hz
    obtain ⟨tz, rfl⟩ := rv
    obtain ⟨t0, t1⟩ := htok z tz hu
    have hN : N[1]? = some y := by
      have hlt : 1 < ps.length := (List.getElem?_eq_some_iff.mp hy).1
      have := hy
      rw [← S.pre, List.getElem?_take_of_lt hlt] at this
      exact this
    have ndP : ps.Nodup := by rw [← S.pre]; exact S.nd.sublist (List.take_sublist _ _)
    exact ⟨y, z, tz, _, hN, x.toInCall.ns, .inl ⟨hyl, bindL_get ndP hy hu hyl⟩, t0, Nat.lt_of_lt_of_le t1 ht⟩
  refine wpAny_mono (ht'.run [] s1 (start N vs) H _ I T hq) (fun fl s' hs => ?_) fun e s' hs => hs
  have fin : ∀ {σ' : L2.St} {H' : Hp} {v : V} {u : Value}, Inv (cxOf CX P w K mg base N qual scope f cdv A outer s H E) [] σ' H' s' → RelV v u → Q v H' → CE outer P w H s Q u s' :=
    fun {σ' H' v u} J rv q => ⟨v, H', J.os, J.bare, J.base, J.hok, rv, q⟩
  cases fl with
  | ret u =>
    obtain ⟨v, σ', H', J, rv, q⟩ := hs
    exact fin J rv q
  | next =>
    obtain ⟨σ', H', J, q⟩ := hs
    exact fin (v := V.non) (u := Value.none) J rfl q
  | brk =>
    obtain ⟨_, _, _, q⟩ := hs
    exact False.elim q
  | cont =>
    obtain ⟨_, _, _, q⟩ := hs
    exact False.elim q
end QB
/-! ### tokens: the check of terms; expressions -/
namespace QB
open PySem L2
/-- a def that wants a text with a token as its second argument -/
def SpS (mg : Str → Option Value) (m : List PyData → R PyData) : Sp := fun vs H Q E => (∃ z, vs[1]? = some (.str z)) ∧ SpD mg m vs H Q E
def CalT (P : Program) (w : World) (K : PySem.W.Frag) (mg : Str → Option Value) (base : Heap) (k : Nat) (x : Str) (m : List PyData → R PyData) : Prop :=
  ∃ f fd ps, FnOkT P w K mg base (L2.CX P w) k f fd ps (SpS mg m) ∧ mg x = some (.ref f) ∧ PySem.W.keepIn K (.ref f) = true ∧ Binds K fd ps []
theorem CalT.mono {P : Program} {w : World} {K : PySem.W.Frag} {mg : Str → Option Value} {base : Heap} {j k : Nat} {x : Str} {m : List PyData → R PyData} (c : CalT P w K mg base j x m) (h : j ≤ k) : CalT P w K mg base k x m :=
  let ⟨f, fd, ps, F, r⟩ := c; ⟨f, fd, ps, F.mono h, r⟩
inductive UseK where
  | std (u : Use) | tok (x : Str) (m : List PyData → R PyData)
def UseK.ok (X : Cx) (k : Nat) : UseK → Prop
  | .std u => u.ok X k
  | .tok x m => CalT X.prog X.w X.K X.mg X.base k x m
mutual
def uK (TN : List Str) : P → List UseK
  | .fn x m as => cond (TN.contains x) [.tok x m] (.std (.call x m) :: uKs TN as)
  | .tup as => uKs TN as
  | _ => []
def uKs (TN : List Str) : Ps → List UseK
  | .nil => []
  | .cons a as => uK TN a ++ uKs TN as
end
def uC (TN : List Str) : P → List UseK
  | .bi _ a b => uK TN a ++ uK TN b
  | .oo a b => uC TN a ++ uC TN b
  | _ => []
def stdU (l : List Use) : List UseK := l.map .std
abbrev OkK (X : Cx) (k : Nat) (l : List UseK) : Prop := ∀ u ∈ l, u.ok X k
theorem OkK.l {X : Cx} {k : Nat} {l l' : List UseK} (h : OkK X k (l ++ l')) : OkK X k l := fun u hu => h u (List.mem_append_left _ hu)
theorem OkK.r {X : Cx} {k : Nat} {l l' : List UseK} (h : OkK X k (l ++ l')) : OkK X k l' := fun u hu => h u (List.mem_append_right _ hu)
theorem OkK.std {X : Cx} {k : Nat} {l : List Use} (h : OkK X k (stdU l)) : OkU X k l := fun u hu => h (.std u) (List.mem_map_of_mem hu)
/-! #### the check -/
def argV : Ps → Option (Nat × Nat)
  | .cons (.var l) (.cons (.var j) .nil) => some (l, j)
  | _ => none
def repV : P → P → P → Option (Nat × Nat)
  | .var l, .var j, .cst (.str z) => if z = "" then some (l, j) else none
  | _, _, _ => none
def vFnT : Expr → Option (Str × Str × Str)
  | .Call (.Name x _) [.Name a _, .Name y _] [] _ => some (x, a, y)
  | _ => none
def vRepl : Expr → Option (Str × Str)
  | .Call (.Attribute (.Name o _) n ap) [.Name y _, .Constant (.str z) _ _] [] p => if n = "replace" ∧ z = "" ∧ (ap.endLine == p.line) = true then some (o, y) else none
  | _ => none
def vStr : Expr → Option Str
  | .Constant (.str z) _ _ => some z
  | _ => none
def cStr : PyData → Option Str
  | .str z => some z
  | _ => none
def nameB (c : Cc) (j : Nat) (x : Str) : Bool := atN c j x && isVis c x
mutual
def chkK (TN : List Str) (c : Cc) (i : Nat) : P → Expr → Bool
  | .var j, e => match vVar e with
    | some x => nameB c j x
    | none => false
  | .cst d, e => match cStr d, vStr e with
    | some z, some y => decide (y = z) && PyData.strOk z
    | _, _ => false
  | .tup as, e => match vTup e with
    | some es => chkKs TN c i as es && decide (es.length ≤ 1000)
    | none => false
  | .fn x _ as, e => cond (TN.contains x)
    (match argV as, vFnT e with
      | some (l, j), some (y, xa, z) => decide (j = i) && decide (y = x) && isGl c x && nameB c l xa && nameB c i z
      | _, _ => false)
    (match vFn e with
      | some (y, es) => decide (y = x) && isGl c x && chkKs TN c i as es && !es.isEmpty
      | none => false)
  | .repl a b d, e => match repV a b d, vRepl e with
    | some (l, j), some (o, z) => decide (j = i) && nameB c l o && nameB c i z
    | _, _ => false
  | _, _ => false
def chkKs (TN : List Str) (c : Cc) (i : Nat) : Ps → List Expr → Bool
  | .nil, l => l.isEmpty
  | .cons a as, l => match l with
    | e :: es => chkK TN c i a e && noStar e && chkKs TN c i as es
    | [] => false
end
def isNe : Bi → Option Bool
  | .ne => some true
  | .eq => some false
  | _ => none
def vCmp (n : Bool) : Expr → Option (Expr × Expr)
  | .Compare x [op] [y] _ => if cmpB op = some (cond n .ne .eq) ∧ behindInMarks op y = false then some (x, y) else none
  | _ => none
def chkC (TN : List Str) (c : Cc) (i : Nat) : P → Expr → Bool
  | .bi b p q, e => match isNe b with
    | some n => (match vCmp n e with
      | some (x, y) => chkK TN c i p x && chkK TN c i q y
      | none => false)
    | none => false
  | .oo a b, e => match vOr e with
    | some (x, y) => chkC TN c i a x && chkC TN c i b y
    | none => false
  | _, _ => false
/-! #### judgements -/
def DEk (X : Cx) (i : Nat) (W : WX) (e : Expr) (m : Env → R PyData) : Prop := ∃ t, PEt X i e t ∧ ∀ ρ σ Hs H Q, Rel0 ρ σ Hs H → PostG (Exc X W σ) Hs H (m ρ) okD Q → t σ H Q
def DAk (X : Cx) (i : Nat) (W : WX) (es : List Expr) (m : Env → R (List PyData)) : Prop := ∃ t, PAt X i es t ∧ ∀ ρ σ Hs H Q, Rel0 ρ σ Hs H → PostG (Exc X W σ) Hs H (m ρ) okA Q → t σ H Q
def DTk (X : Cx) (i : Nat) (W : WX) (e : Expr) (m : Env → R Bool) : Prop := ∃ t, PTt X i e t ∧ ∀ ρ σ Hs H Q, Rel0 ρ σ Hs H → PostG (Exc X W σ) Hs H (m ρ) okB Q → t σ H Q
def DWk (X : Cx) (i : Nat) (W : WX) (e : Expr) (m : Env → R Bool) : Prop := ∃ t, PWt X i e t ∧ ∀ ρ σ Hs H Q, Rel0 ρ σ Hs H → PostG (Exc X W σ) Hs H (m ρ) okB Q → t σ H Q
section
variable {X : Cx} {i k : Nat} {W : WX} {c : Cc} {a b e : Expr} {es : List Expr} {ma mb : Env → R PyData} {ms : Env → R (List PyData)} {pos p : Pos}
theorem DEk.congr {m m' : Env → R PyData} (h : DEk X i W e m) (hm : ∀ ρ, m ρ = m' ρ) : DEk X i W e m' := by
  have : m = m' := funext hm
  rw [← this]; exact h
theorem DTk.congr {m m' : Env → R Bool} (h : DTk X i W e m) (hm : ∀ ρ, m ρ = m' ρ) : DTk X i W e m' := by
  have : m = m' := funext hm
  rw [← this]; exact h
theorem DWk.dt {m : Env → R Bool} (h : DWk X i W e m) : DTk X i W e m := let ⟨t, p, q⟩ := h; ⟨t, p.pt, q⟩
theorem var_get {j : Nat} {ρ : Env} {σ : St} {Hs H : Hp} {Q : VK} {E : Str → Hp → Prop} (r : Rel0 ρ σ Hs H) (h : PostG E Hs H (Sl.get ρ[j]?) okD Q) : ∃ v d, σ[j]? = some (some v) ∧ ρ[j]? = some (.da d) ∧ Dd Hs v d ∧ Q v H := by
  cases e : ρ[j]? with
  | none => rw [e] at h; exact h.elim
  | some s =>
    rw [e] at h
    cases s with
    | no => exact h.elim
    | ow ds => exact h.elim
    | da d =>
      obtain ⟨v, h1, h2⟩ := r.slot j d e
      exact ⟨v, d, h1, rfl, h2, h v Hs H (Ext.refl r.sub) h2⟩
theorem dek_var {j : Nat} {x : Str} (hN : X.N[j]? = some x) (hv : Vis X.env.scope x) (hd : (x == ("__debug__" : Str)) = false) (hcd : (x == ("__classdict__" : Str)) = false) : DEk X i W (.Name x pos) (fun ρ => Sl.get ρ[j]?) := by
  refine ⟨_, pk_var hN hv hd hcd, fun ρ σ Hs H Q r h => ?_⟩
  obtain ⟨v, d, h1, _, _, h2⟩ := var_get r h
  exact ⟨v, h1, h2⟩
theorem dek_str {z : Str} {j : Nat} (ho : PyData.strOk z = true) : DEk X i W (.Constant (.str z) j pos) (fun _ => .ok (.str z)) :=
  ⟨_, pk_str, fun ρ σ Hs H Q r q => q (.str z) Hs H (Ext.refl r.sub) (.str z ho)⟩
theorem dak_nil : DAk X i W [] (fun _ => .ok []) := ⟨_, pka_nil, fun ρ σ Hs H Q r h => h [] Hs H (Ext.refl r.sub) .nil⟩
theorem dak_cons (hs : noStar a = true) (ha : DEk X i W a ma) (hr : DAk X i W es ms) : DAk X i W (a :: es) (fun ρ => (ma ρ).bind fun d => (ms ρ).bind fun ds => .ok (d :: ds)) := by
  obtain ⟨ta, pa, qa⟩ := ha
  obtain ⟨tr, pr, qr⟩ := hr
  refine ⟨_, pka_cons pa pr (star_cons hs), fun ρ σ Hs H Q r h => ?_⟩
  refine qa ρ σ Hs H _ r (h.seq fun d x Hs1 H1 _ e1 o1 h1 => ?_)
  refine qr ρ σ Hs1 H1 _ (r.ext e1) (h1.seq fun ds xs Hs2 H2 _ e2 o2 h2 => ?_)
  exact h2 (x :: xs) Hs2 H2 (Ext.refl e2.sub) (.cons (dpMono e2.s d o1) o2)
theorem dek_tup {n : Nat} (hl : ∀ ρ ds, ms ρ = .ok ds → ds.length ≤ lim) (h : DAk X i W es ms) : DEk X i W (.Tuple es n pos) (fun ρ => (ms ρ).bind fun ds => .ok (.tuple ds)) := by
  obtain ⟨t, p, q⟩ := h
  refine ⟨_, pk_tup p, fun ρ σ Hs H Q r h => ?_⟩
  refine q ρ σ Hs H _ r (h.seq fun ds xs Hs1 H1 e0 e1 o1 h1 => ?_)
  refine ⟨lim_line (by rw [dpaLen o1]; exact hl ρ ds e0), fun p hp => ?_⟩
  exact h1 (.ref p) (upd Hs1 p (.tup xs)) _ (Ext.laid e1.sub hp) (.tup (.inl upd_same) (dpaMono (same_new (e1.sub.free hp)) ds o1))
theorem dek_fn {x : Str} {m : List PyData → R PyData} (C : Cal X.prog X.w X.K X.mg X.base k x m) (hr : Room k X.A) (tk : Takes X W) (hg : Gl X x) (hdb : (x == ("__debug__" : Str)) = false)
    (hs : (e :: es).all noStar = true) (ha : DAk X i W (e :: es) ms) : DEk X i W (.Call (.Name x p) (e :: es) [] pos) (fun ρ => (ms ρ).bind m) := by
  obtain ⟨f, fd, ps, F, hm, hk, hb⟩ := C
  obtain ⟨t, pa, q⟩ := ha
  rw [List.all_cons, Bool.and_eq_true] at hs
  refine ⟨_, pk_call F hr hg hm hk hb (fun σ => passAt tk σ) pa hdb (star_cons hs.1) (noplain hs.2), fun ρ σ Hs H Q r h => ?_⟩
  exact q ρ σ Hs H _ r (h.seq fun ds vs Hs1 H1 _ e1 o1 h1 => ⟨Hs1, ds, e1.sub, o1, h1⟩)
theorem dek_fnT {x y : Str} {py : Pos} {m : List PyData → R PyData} (C : CalT X.prog X.w X.K X.mg X.base k x m) (hr : Room k X.A) (tk : Takes X W) (hg : Gl X x) (hdb : (x == ("__debug__" : Str)) = false)
    (hN : X.N[i]? = some y) (hv : Vis X.env.scope y) (hd : (y == ("__debug__" : Str)) = false) (hcd : (y == ("__classdict__" : Str)) = false) (hs : noStar a = true) (ha : DEk X i W a ma) :
    DEk X i W (.Call (.Name x p) [a, .Name y py] [] pos) (fun ρ => (ma ρ).bind fun d => (Sl.get ρ[i]?).bind fun e => m [d, e]) := by
  obtain ⟨f, fd, ps, F, hm, hk, hb⟩ := C
  obtain ⟨t, pa, q⟩ := ha
  refine ⟨_, pk_callT F hr hg hm hk hb (fun σ => passAt tk σ) pa hN hv hd hcd hdb hs, fun ρ σ Hs H Q r h => ?_⟩
  refine q ρ σ Hs H _ r (h.seq fun d v Hs1 H1 _ e1 o1 h1 => ?_)
  have h2 : PostG (Exc X W σ) Hs1 H1 (Sl.get ρ[i]?) okD fun u H2 => H2 = H1 → SpD X.mg m [v, u] H1 Q (fun cls d H => W cls d σ H) := h1.seq fun e u Hs2 H2 q0 e2 o2 h3 e3 => by
    subst e3
    exact ⟨Hs2, [d, e], e2.sub, .cons (dpMono e2.s d o1) (.cons o2 .nil), h3⟩
  obtain ⟨u, e, g1, _, _, g2⟩ := var_get (r.ext e1) h2
  exact ⟨u, g1, fun ⟨z, hz⟩ => ⟨⟨z, by rw [hz]; rfl⟩, g2 rfl⟩⟩
theorem dek_repl {y : Str} {py c1 apos : Pos} {j : Nat} (hN : X.N[i]? = some y) (hv : Vis X.env.scope y) (hd : (y == ("__debug__" : Str)) = false) (hcd : (y == ("__classdict__" : Str)) = false) (hb : plainBase a = true) (hln : (apos.endLine == pos.line) = true) (ha : DEk X i W a ma) :
    DEk X i W (.Call (.Attribute a "replace" apos) [.Name y py, .Constant (.str "") j c1] [] pos) (fun ρ => (ma ρ).bind fun d => (Sl.get ρ[i]?).bind fun e => rep3 d e (.str "")) := by
  obtain ⟨t, pa, q⟩ := ha
  refine ⟨_, pk_repl pa hN hv hd hcd (base_of hb) hln, fun ρ σ Hs H Q r h => ?_⟩
  refine q ρ σ Hs H _ r (h.seq fun d v Hs1 H1 _ e1 o1 h1 => ?_)
  have h2 : PostG (Exc X W σ) Hs1 H1 (Sl.get ρ[i]?) okD fun u H2 => H2 = H1 → ∃ x z, v = .str x ∧ u = .str z ∧ (z == ("" : Str)) = false ∧ x.length ≤ 1000000 ∧ Q (.str (Txt.replace x z "")) H1 := h1.seq fun e u Hs2 H2 q0 e2 o2 h3 e3 => by
    subst e3
    cases d with
    | str x =>
      cases e with
      | str z =>
        have h3 : PostG (Exc X W σ) Hs2 H2 (R.when (decide (x.length ≤ 1000 ∧ z.length = 1 ∧ ("" : Str).length = 0) && PySem.PyData.strOk (PySem.Txt.replace x z "")) (.ok (.str (PySem.Txt.replace x z "")))) okD Q := h3
        obtain ⟨hc, h3⟩ := PostG.when h3
        rw [Bool.and_eq_true] at hc
        obtain ⟨c1, c2⟩ := hc
        have c1 := of_decide_eq_true c1
        cases o1
        cases o2
        refine ⟨x, z, rfl, rfl, ?_, by omega, h3 _ Hs2 H2 (Ext.refl e2.sub) (.str _ c2)⟩
        cases hz : (z == ("" : Str)) with
        | false => rfl
        | true =>
          have : z = "" := eq_of_beq hz
          rw [this] at c1
          exact absurd (c1.2.1.symm.trans c1.2.2) (by decide)
      | _ => exact h3.elim
    | _ => exact h3.elim
  obtain ⟨u, e, g1, _, _, g2⟩ := var_get (r.ext e1) h2
  obtain ⟨x, z, rfl, rfl, g3, g4, g5⟩ := g2 rfl
  exact ⟨x, z, rfl, g1, g3, g4, g5⟩
theorem dtk_cmp {op : CmpOp} {f : PyData → PyData → R PyData} (ho : OpSt X (compareOp op) (rD X f)) (hn : ∀ d e c, f d e ≠ .exc c) (ha : DEk X i W a ma) (hb : DEk X i W b mb) (hm : behindInMarks op b = false) :
    DTk X i W (.Compare a [op] [b] pos) (fun ρ => boolR ((ma ρ).bind fun d => (mb ρ).bind fun e => f d e)) := by
  obtain ⟨ta, pa, qa⟩ := ha
  obtain ⟨tb, pb, qb⟩ := hb
  refine ⟨_, ptk_cmp ho pa pb hm, fun ρ σ Hs H Q r h => ?_⟩
  have h' : PostG (Exc X W σ) Hs H ((ma ρ).bind fun d => ((mb ρ).bind fun e => boolR (f d e))) okB Q := by
    dsimp only at h
    cases h1 : ma ρ with
    | ok d =>
      rw [h1] at h
      dsimp only [R.bind] at h
      cases h2 : mb ρ with
      | ok e => rw [h2] at h; exact h
      | exc c => rw [h2] at h; exact h
      | stuck => rw [h2] at h; exact h
    | exc c => rw [h1] at h; exact h
    | stuck => rw [h1] at h; exact h
  refine qa ρ σ Hs H _ r (h'.seq fun d x Hs1 H1 _ e1 o1 h1 => ?_)
  refine qb ρ σ Hs1 H1 _ (r.ext e1) (h1.seq fun e y Hs2 H2 _ e2 o2 h2 => ?_)
  refine ⟨Hs2, d, e, e2.sub, dpMono e2.s d o1, o2, ?_⟩
  have h3 : PostG (fun _ _ => False) Hs2 H2 (boolR (f d e)) okB Q := h2.firm fun c z => by
    unfold boolR at z
    cases h4 : f d e with
    | ok x => rw [h4] at z; cases x <;> cases z
    | exc c' => exact hn d e c' h4
    | stuck => rw [h4] at z; cases z
  refine PostG.seq h3 fun dd v Hs3 H3 _ e3 o3 h4 => ?_
  cases dd with
  | bool k => cases o3; exact ⟨k, rfl, h4 k Hs3 H3 (Ext.refl e3.sub) rfl⟩
  | none => exact h4.elim
  | int i => exact h4.elim
  | str z => exact h4.elim
  | list z => exact h4.elim
  | tuple z => exact h4.elim
  | dict z => exact h4.elim
theorem dwk_or1 {m : Env → R Bool} (ha : DTk X i W a m) : DWk X i W (.BoolOp .Or [a] pos) m := let ⟨t, p, q⟩ := ha; ⟨t, pwk_or1 p, q⟩
theorem dwk_or {rest : List Expr} {m1 m2 : Env → R Bool} (ha : DTk X i W a m1) (hb : DWk X i W (.BoolOp .Or (b :: rest) pos) m2) : DWk X i W (.BoolOp .Or (a :: b :: rest) pos) (fun ρ => (m1 ρ).bind fun k => cond k (.ok true) (m2 ρ)) := by
  obtain ⟨ta, pa, qa⟩ := ha
  obtain ⟨tb, pb, qb⟩ := hb
  refine ⟨_, pwk_or pa pb, fun ρ σ Hs H Q r h => ?_⟩
  refine qa ρ σ Hs H _ r (h.seq fun d x Hs1 H1 _ e1 o1 h1 => ?_)
  subst o1
  cases x with
  | true => exact h1 true Hs1 H1 (Ext.refl e1.sub) rfl
  | false => exact qb ρ σ Hs1 H1 Q (r.ext e1) h1
end
/-! #### the check is sound: expressions -/
section
variable {k : Nat} {TN : List Str}
theorem ks_stars {c : Cc} {i : Nat} : ∀ {ps : Ps} {es : List Expr}, chkKs TN c i ps es = true → es.all noStar = true
  | .nil, es, h => by
    cases es with
    | nil => rfl
    | cons _ _ => cases h
  | .cons a as, es, h => by
    cases es with
    | nil => cases h
    | cons x es =>
      have h : (chkK TN c i a x && noStar x && chkKs TN c i as es) = true := h
      rw [Bool.and_eq_true, Bool.and_eq_true] at h
      rw [List.all_cons, h.1.2, ks_stars h.2]; rfl
theorem ks_lens {c : Cc} {i : Nat} : ∀ {ps : Ps} {es : List Expr} {ρ : Env} {ds : List PyData}, chkKs TN c i ps es = true → evs ps ρ = .ok ds → ds.length = es.length
  | .nil, es, ρ, ds, h, e => by
    cases es with
    | nil => cases e; rfl
    | cons _ _ => cases h
  | .cons a as, es, ρ, ds, h, e => by
    cases es with
    | nil => cases h
    | cons x es =>
      have h : (chkK TN c i a x && noStar x && chkKs TN c i as es) = true := h
      rw [Bool.and_eq_true] at h
      have e : ((ev a ρ).bind fun d => (evs as ρ).bind fun ds => (.ok (d :: ds) : R (List PyData))) = .ok ds := e
      cases h1 : ev a ρ with
      | stuck => rw [h1] at e; cases e
      | exc _ => rw [h1] at e; cases e
      | ok d =>
        cases h2 : evs as ρ with
        | stuck => rw [h1, h2] at e; cases e
        | exc _ => rw [h1, h2] at e; cases e
        | ok ds' =>
          rw [h1, h2] at e
          cases e
          simp [ks_lens h.2 h2]
theorem name_dek {c : Cc} {i j : Nat} {X : Cx} {W : WX} {x : Str} {pos : Pos} (hX : InC c X) (h : nameB c j x = true) : DEk X i W (.Name x pos) (fun ρ => Sl.get ρ[j]?) := by
  unfold nameB at h
  rw [Bool.and_eq_true] at h
  obtain ⟨v1, v2, v3⟩ := hX.vis h.2
  exact dek_var (at_N hX h.1) v1 v2 v3
theorem name_at {c : Cc} {j : Nat} {X : Cx} {x : Str} (hX : InC c X) (h : nameB c j x = true) : X.N[j]? = some x ∧ Vis X.env.scope x ∧ (x == ("__debug__" : Str)) = false ∧ (x == ("__classdict__" : Str)) = false := by
  unfold nameB at h
  rw [Bool.and_eq_true] at h
  exact ⟨at_N hX h.1, hX.vis h.2⟩
theorem argV_is {as : Ps} {l j : Nat} (h : argV as = some (l, j)) : as = .cons (.var l) (.cons (.var j) .nil) := by
  unfold argV at h
  split at h
  · cases h; rfl
  · cases h
theorem repV_is {a b d : P} {l j : Nat} (h : repV a b d = some (l, j)) : a = .var l ∧ b = .var j ∧ d = .cst (.str "") := by
  unfold repV at h
  split at h
  · split at h
    · rename_i hz; cases h; subst hz; exact ⟨rfl, rfl, rfl⟩
    · cases h
  · cases h
mutual
theorem sndK : ∀ (p : P) {c : Cc} {i : Nat} {X : Cx} {W : WX} {e : Expr}, InC c X → Wd X k → Takes X W → OkK X k (uK TN p) → chkK TN c i p e = true → DEk X i W e (fun ρ => ev p ρ)
  | .var j, c, i, X, W, e, hX, hw, tk, hu, h => by
    cases e with
    | Name x p => exact name_dek hX h
    | _ => cases h
  | .cst d, c, i, X, W, e, hX, hw, tk, hu, h => by
    rw [chkK] at h
    split at h
    · rename_i z y hd hv
      rw [Bool.and_eq_true] at h
      have := of_decide_eq_true h.1
      subst this
      unfold cStr at hd
      split at hd
      · cases hd
        unfold vStr at hv
        split at hv
        · cases hv; exact dek_str h.2
        · cases hv
      · cases hd
    · cases h
  | .tup as, c, i, X, W, e, hX, hw, tk, hu, h => by
    rw [chkK] at h
    split at h
    · rename_i es hv
      rw [Bool.and_eq_true] at h
      have h1 := sndKs as hX hw tk hu h.1
      unfold vTup at hv
      split at hv
      · cases hv
        exact dek_tup (fun ρ ds q => by rw [ks_lens h.1 q]; exact Nat.le_trans (of_decide_eq_true h.2) (by decide)) h1
      · cases hv
    · cases h
  | .fn x m as, c, i, X, W, e, hX, hw, tk, hu, h => by
    rw [chkK] at h
    rw [uK] at hu
    cases ht : TN.contains x with
    | true =>
      rw [ht, cond_true] at h hu
      have hc : CalT X.prog X.w X.K X.mg X.base k x m := hu (.tok x m) (List.mem_singleton_self _)
      split at h
      · rename_i l j y xa z ha hv
        simp only [Bool.and_eq_true, decide_eq_true_eq] at h
        obtain ⟨⟨⟨⟨h1, h2⟩, h3⟩, h4⟩, h5⟩ := h
        subst h1 h2
        obtain ⟨n1, n2, n3, n4⟩ := name_at hX h5
        have e1 := argV_is ha
        subst e1
        unfold vFnT at hv
        split at hv
        · cases hv
          refine (dek_fnT hc hw.room tk (hX.gl h3).1 (hX.gl h3).2 n1 n2 n3 n4 rfl (name_dek hX h4)).congr fun ρ => ?_
          show _ = ((Sl.get ρ[l]?).bind fun d => ((Sl.get ρ[j]?).bind fun d' => (R.ok [] : R (List PyData)).bind fun ds => .ok (d' :: ds)).bind fun ds => .ok (d :: ds)).bind m
          cases Sl.get ρ[l]? with
          | ok d =>
            cases Sl.get ρ[j]? with
            | ok e => rfl
            | exc c => rfl
            | stuck => rfl
          | exc c => rfl
          | stuck => rfl
        · cases hv
      · cases h
    | false =>
      rw [ht, cond_false] at h hu
      split at h
      · rename_i y es hv
        rw [Bool.and_eq_true, Bool.and_eq_true, Bool.and_eq_true] at h
        have h1 := sndKs as hX hw tk (fun u q => hu u (List.mem_cons_of_mem _ q)) h.1.2
        have hc : Cal X.prog X.w X.K X.mg X.base k x m := hu (.std (.call x m)) (List.mem_cons_self ..)
        have := of_decide_eq_true h.1.1.1
        subst this
        unfold vFn at hv
        split at hv
        · cases hv
          cases es with
          | nil => simp at h
          | cons e es => exact dek_fn hc hw.room tk (hX.gl h.1.1.2).1 (hX.gl h.1.1.2).2 (ks_stars h.1.2) h1
        · cases hv
      · cases h
  | .repl a b d, c, i, X, W, e, hX, hw, tk, hu, h => by
    rw [chkK] at h
    split at h
    · rename_i l j o z ha hv
      simp only [Bool.and_eq_true, decide_eq_true_eq] at h
      obtain ⟨⟨h1, h2⟩, h3⟩ := h
      subst h1
      obtain ⟨n1, n2, n3, n4⟩ := name_at hX h3
      obtain ⟨rfl, rfl, rfl⟩ := repV_is ha
      unfold vRepl at hv
      split at hv
      · split at hv
        · rename_i hh
          cases hv
          obtain ⟨rfl, rfl, hl⟩ := hh
          exact dek_repl n1 n2 n3 n4 rfl hl (name_dek hX h2)
        · cases hv
      · cases hv
    · cases h
  | .glb _ _, c, i, X, W, e, hX, hw, tk, hu, h => by simp [chkK] at h
  | .un _ _, c, i, X, W, e, hX, hw, tk, hu, h => by simp [chkK] at h
  | .bi _ _ _, c, i, X, W, e, hX, hw, tk, hu, h => by simp [chkK] at h
  | .chn _ _ _ _ _, c, i, X, W, e, hX, hw, tk, hu, h => by simp [chkK] at h
  | .nt _, c, i, X, W, e, hX, hw, tk, hu, h => by simp [chkK] at h
  | .an _ _, c, i, X, W, e, hX, hw, tk, hu, h => by simp [chkK] at h
  | .oo _ _, c, i, X, W, e, hX, hw, tk, hu, h => by simp [chkK] at h
  | .ite _ _ _, c, i, X, W, e, hX, hw, tk, hu, h => by simp [chkK] at h
  | .lst _, c, i, X, W, e, hX, hw, tk, hu, h => by simp [chkK] at h
  | .lstRng _, c, i, X, W, e, hX, hw, tk, hu, h => by simp [chkK] at h
  | .comp _ _ _ _, c, i, X, W, e, hX, hw, tk, hu, h => by simp [chkK] at h
  | .compT _ _ _ _ _, c, i, X, W, e, hX, hw, tk, hu, h => by simp [chkK] at h
theorem sndKs : ∀ (ps : Ps) {c : Cc} {i : Nat} {X : Cx} {W : WX} {es : List Expr}, InC c X → Wd X k → Takes X W → OkK X k (uKs TN ps) → chkKs TN c i ps es = true → DAk X i W es (fun ρ => evs ps ρ)
  | .nil, c, i, X, W, es, hX, hw, tk, hu, h => by
    cases es with
    | nil => exact dak_nil
    | cons _ _ => cases h
  | .cons a as, c, i, X, W, es, hX, hw, tk, hu, h => by
    cases es with
    | nil => cases h
    | cons e es =>
      have h : (chkK TN c i a e && noStar e && chkKs TN c i as es) = true := h
      rw [Bool.and_eq_true, Bool.and_eq_true] at h
      exact dak_cons h.1.2 (sndK a hX hw tk (OkK.l hu) h.1.1) (sndKs as hX hw tk (OkK.r hu) h.2)
end
theorem op_cmpT {X : Cx} (hu : X.A.units + 64 < cLine) {n : Bool} {op : CmpOp} (h : cmpB op = some (cond n .ne .eq)) : OpSt X (compareOp op) (rD X (bi2 (cond n .ne .eq))) := by
  cases n <;> cases op <;> first | (cases h; done) | skip
  · exact op_eqT hu
  · exact op_neT hu
theorem isNe_is {b : Bi} {n : Bool} (h : isNe b = some n) : b = cond n .ne .eq := by
  cases b <;> cases h <;> rfl
theorem sndC : ∀ (p : P) {c : Cc} {i : Nat} {X : Cx} {W : WX} {e : Expr}, InC c X → Wd X k → Takes X W → OkK X k (uC TN p) → chkC TN c i p e = true → DTk X i W e (fun ρ => boolR (ev p ρ)) ∧ (∀ op vs pos, e = .BoolOp op vs pos → DWk X i W e (fun ρ => boolR (ev p ρ)))
  | .bi bb a b, c, i, X, W, e, hX, hw, tk, hu, h => by
    rw [chkC] at h
    split at h
    · rename_i n hn
      have := isNe_is hn
      subst this
      split at h
      · rename_i x y hv
        rw [Bool.and_eq_true] at h
        have h1 := sndK a hX hw tk (OkK.l hu) h.1
        have h2 := sndK b hX hw tk (OkK.r hu) h.2
        unfold vCmp at hv
        split at hv
        · split at hv
          · rename_i hh
            cases hv
            refine ⟨(dtk_cmp (op_cmpT hw.room.units hh.1) (bi2_noexc _) h1 h2 hh.2).congr fun ρ => ?_, fun _ _ _ z => by cases z⟩
            have hr : ∀ d, rcv (cond n .ne .eq) d = true := by intro d; cases n <;> rfl
            exact congrArg boolR (rcvT hr)
          · cases hv
        · cases hv
      · cases h
    · cases h
  | .oo a b, c, i, X, W, e, hX, hw, tk, hu, h => by
    rw [chkC] at h
    split at h
    · rename_i x y hv
      rw [Bool.and_eq_true] at h
      have h1 := sndC a hX hw tk (OkK.l hu) h.1
      have h2 := sndC b hX hw tk (OkK.r hu) h.2
      have hm : ∀ ρ, ((boolR (ev a ρ)).bind fun k => cond k (.ok true) (boolR (ev b ρ))) = boolR (ev (.oo a b) ρ) := fun ρ => by
        show _ = boolR ((boolR (ev a ρ)).bind fun k => cond k (.ok (.bool true)) (ev b ρ))
        rw [boolR_bind]
        congr 1
        funext k
        cases k <;> rfl
      unfold vOr at hv
      split at hv
      · cases hv
        have q := dwk_or h1.1 (dwk_or1 h2.1 (pos := by assumption))
        rw [funext hm] at q
        exact ⟨q.dt, fun _ _ _ _ => q⟩
      · cases hv
        have q := dwk_or h1.1 (h2.2 _ _ _ rfl)
        rw [funext hm] at q
        exact ⟨q.dt, fun _ _ _ _ => q⟩
      · cases hv
    · cases h
  | .cst _, c, i, X, W, e, hX, hw, tk, hu, h => by simp [chkC] at h
  | .var _, c, i, X, W, e, hX, hw, tk, hu, h => by simp [chkC] at h
  | .tup _, c, i, X, W, e, hX, hw, tk, hu, h => by simp [chkC] at h
  | .fn _ _ _, c, i, X, W, e, hX, hw, tk, hu, h => by simp [chkC] at h
  | .repl _ _ _, c, i, X, W, e, hX, hw, tk, hu, h => by simp [chkC] at h
  | .glb _ _, c, i, X, W, e, hX, hw, tk, hu, h => by simp [chkC] at h
  | .un _ _, c, i, X, W, e, hX, hw, tk, hu, h => by simp [chkC] at h
  | .chn _ _ _ _ _, c, i, X, W, e, hX, hw, tk, hu, h => by simp [chkC] at h
  | .nt _, c, i, X, W, e, hX, hw, tk, hu, h => by simp [chkC] at h
  | .an _ _, c, i, X, W, e, hX, hw, tk, hu, h => by simp [chkC] at h
  | .ite _ _ _, c, i, X, W, e, hX, hw, tk, hu, h => by simp [chkC] at h
  | .lst _, c, i, X, W, e, hX, hw, tk, hu, h => by simp [chkC] at h
  | .lstRng _, c, i, X, W, e, hX, hw, tk, hu, h => by simp [chkC] at h
  | .comp _ _ _ _, c, i, X, W, e, hX, hw, tk, hu, h => by simp [chkC] at h
  | .compT _ _ _ _ _, c, i, X, W, e, hX, hw, tk, hu, h => by simp [chkC] at h
end
end QB
/-! ### tokens: statements, suites -/
namespace QB
open PySem L2
/-- how a suite is walked: plainly; one statement with the token; a loop over a text, with a token of its own, and the rest plainly -/
inductive Pl where
  | std | nxt (r : Pl) | loop (b : Pl)
def DSk (X : Cx) (i : Nat) (W : WX) (st : Stmt) (m : Env → R Out) : Prop := ∃ t, PSt X i st t ∧ ∀ Hs0 H0 Hst ρ σ Hs H D, Rel Hs0 H0 ρ σ Hs H → Same Hst Hs → PostS X.mg W Hs0 H0 Hst (m ρ) D → t D σ H
def DSsk (X : Cx) (i : Nat) (W : WX) (st : List Stmt) (m : Env → R Out) : Prop := ∃ t, PSst X i st t ∧ ∀ Hs0 H0 Hst ρ σ Hs H D, Rel Hs0 H0 ρ σ Hs H → Same Hst Hs → PostS X.mg W Hs0 H0 Hst (m ρ) D → t D σ H
def DSd (X : Cx) (i : Nat) (W : WX) (st : Stmt) (m : Env → R Out) : Prop := ∃ t, PSd X i st t ∧ ∀ Hs0 H0 Hst ρ σ Hs H D, Rel Hs0 H0 ρ σ Hs H → Same Hst Hs → PostS X.mg W Hs0 H0 Hst (m ρ) D → t D σ H
def DS1 (X : Cx) (W : WX) (st : Stmt) (m : Env → R Out) : Prop := ∃ t, PS1 X st t ∧ ∀ Hs0 H0 Hst ρ σ Hs H D, Rel Hs0 H0 ρ σ Hs H → Same Hst Hs → PostS X.mg W Hs0 H0 Hst (m ρ) D → t D σ H
def DSs1 (X : Cx) (W : WX) (st : List Stmt) (m : Env → R Out) : Prop := ∃ t, PSs1 X st t ∧ ∀ Hs0 H0 Hst ρ σ Hs H D, Rel Hs0 H0 ρ σ Hs H → Same Hst Hs → PostS X.mg W Hs0 H0 Hst (m ρ) D → t D σ H
section
variable {X : Cx} {i : Nat} {W : WX} {pos : Pos} {st : Stmt} {l : List Stmt} {e : Expr} {m : Env → R PyData} {m1 m2 : Env → R Out}
theorem DSk.congr {m m' : Env → R Out} (h : DSk X i W st m) (hm : ∀ ρ, m ρ = m' ρ) : DSk X i W st m' := by
  have : m = m' := funext hm
  rw [← this]; exact h
theorem dssk_std (h : DSs X W l m1) : DSsk X i W l m1 := let ⟨t, p, q⟩ := h; ⟨t, psk_std p, q⟩
theorem dssk_cons (h1 : DSk X i W st m1) (h2 : DSsk X i W l m2) : DSsk X i W (st :: l) (fun ρ => (m1 ρ).next m2) := by
  obtain ⟨t1, p1, q1⟩ := h1
  obtain ⟨t2, p2, q2⟩ := h2
  refine ⟨_, psk_cons p1 p2, fun Hs0 H0 Hst ρ σ Hs H D r sm h => ?_⟩
  exact q1 Hs0 H0 Hst ρ σ Hs H _ r sm (h.next fun ρ' σ' Hs' H' r' sm' h' => q2 Hs0 H0 Hst ρ' σ' Hs' H' D r' sm' h')
theorem dsd_cons (h1 : DSd X i W st m1) (h2 : DSs X W l m2) : DSsk X i W (st :: l) (fun ρ => (m1 ρ).next m2) := by
  obtain ⟨t1, p1, q1⟩ := h1
  obtain ⟨t2, p2, q2⟩ := h2
  refine ⟨_, psd_cons p1 p2, fun Hs0 H0 Hst ρ σ Hs H D r sm h => ?_⟩
  exact q1 Hs0 H0 Hst ρ σ Hs H _ r sm (h.next fun ρ' σ' Hs' H' r' sm' h' => q2 Hs0 H0 Hst ρ' σ' Hs' H' D r' sm' h')
theorem ds1_of (h : DS X W st m1) : DS1 X W st m1 := let ⟨t, p, q⟩ := h; ⟨t, ps1_of p, q⟩
theorem dss1_of (h : DSs X W l m1) : DSs1 X W l m1 := let ⟨t, p, q⟩ := h; ⟨t, pss1_of p, q⟩
theorem dss1_cons (h1 : DS1 X W st m1) (h2 : DSs1 X W l m2) : DSs1 X W (st :: l) (fun ρ => (m1 ρ).next m2) := by
  obtain ⟨t1, p1, q1⟩ := h1
  obtain ⟨t2, p2, q2⟩ := h2
  refine ⟨_, pss1_cons p1 p2, fun Hs0 H0 Hst ρ σ Hs H D r sm h => ?_⟩
  exact q1 Hs0 H0 Hst ρ σ Hs H _ r sm (h.next fun ρ' σ' Hs' H' r' sm' h' => q2 Hs0 H0 Hst ρ' σ' Hs' H' D r' sm' h')
theorem dss1_frz {j : Nat} {m : Env → R Out} (h : DSs1 X W l m) : DSs1 X W l (fun ρ => m (frzS ρ j)) := by
  obtain ⟨t, p, q⟩ := h
  refine ⟨t, p, fun Hs0 H0 Hst ρ σ Hs H D r sm h => ?_⟩
  obtain ⟨Hs', r', sm'⟩ := r.frz j
  exact q Hs0 H0 Hst _ σ Hs' H D r' (sm.trans sm') h
theorem dsk_ret (he : DEk X i W e m) : DSk X i W (.Return (some e) pos) (fun ρ => (m ρ).bind fun d => .ok (.rt d)) := by
  obtain ⟨t, p, q⟩ := he
  refine ⟨_, psk_ret p, fun Hs0 H0 Hst ρ σ Hs H D r sm h => ?_⟩
  exact q ρ σ Hs H _ r.base (h.bind r.grow fun d v Hs1 H1 _ e1 o1 h1 => h1 v Hs1 H1 (r.grow.trans e1) o1)
theorem dsk_evl (hc : noComp e = true) (he : DEk X i W e m) : DSk X i W (.Expr e pos) (fun ρ => (m ρ).bind fun _ => .ok (.nx ρ)) := by
  obtain ⟨t, p, q⟩ := he
  refine ⟨_, psk_evl p (swaps_no hc), fun Hs0 H0 Hst ρ σ Hs H D r sm h => ?_⟩
  exact q ρ σ Hs H _ r.base (h.bind r.grow fun d v Hs1 H1 _ e1 o1 h1 => h1 σ Hs1 H1 (r.ext e1) (sm.trans e1.s))
theorem dsk_set {j : Nat} {y : Str} {py : Pos} (hN : X.N.Nodup) (hj : X.N[j]? = some y) (hy : X.env.scope.names.lookup y = some .local) (hij : i ≠ j) (hc : noComp e = true) (he : DEk X i W e m) :
    DSk X i W (.Assign [.Name y py] e pos) (fun ρ => (m ρ).bind fun d => .ok (.nx (ρ.set j (.da d)))) := by
  obtain ⟨t, p, q⟩ := he
  refine ⟨_, psk_set hN hj hy hij p (swaps_no hc), fun Hs0 H0 Hst ρ σ Hs H D r sm h => ?_⟩
  refine q ρ σ Hs H _ r.base (h.bind r.grow fun d v Hs1 H1 _ e1 o1 h1 => ?_)
  exact h1 _ Hs1 H1 ((r.ext e1).store o1) (sm.trans e1.s)
theorem dsk_if {c : Expr} {a : List Stmt} {mt : Env → R Bool} (hc : DTk X i W c mt) (h1 : DSs X W a m1) (hn : ∀ ρ ρ', m1 ρ ≠ .ok (.nx ρ')) : DSk X i W (.If c a [] pos) (fun ρ => (mt ρ).bind fun k => cond k (m1 ρ) (.ok (.nx ρ))) := by
  obtain ⟨tc, pc, qc⟩ := hc
  obtain ⟨t1, p1, q1⟩ := h1
  refine ⟨_, psk_if pc p1, fun Hs0 H0 Hst ρ σ Hs H D r sm h => ?_⟩
  refine qc ρ σ Hs H _ r.base (h.bind r.grow fun k x Hs1 H1 _ e1 o1 h1 => ?_)
  subst o1
  cases x with
  | true =>
    rw [if_pos rfl]
    have h1 : PostS X.mg W Hs0 H0 Hst (m1 ρ) D := h1
    refine q1 Hs0 H0 Hst ρ σ Hs1 H1 _ (r.ext e1) (sm.trans e1.s) ?_
    cases hm : m1 ρ with
    | stuck => rw [hm] at h1; exact h1
    | exc c => rw [hm] at h1; exact h1
    | ok o =>
      rw [hm] at h1
      cases o with
      | nx ρ' => exact absurd hm (hn ρ ρ')
      | rt d => exact h1
  | false => rw [if_neg (by decide)]; exact h1 σ Hs1 H1 (r.ext e1) (sm.trans e1.s)
/-! #### targets -/
def DGsk (X : Cx) (i : Nat) (ts : List Tg) (es : List Expr) : Prop := ∃ g, PGst X i es g ∧ (assignEach es X.env).length = ts.length ∧ (assignEach es X.env).findIdx? (·.1) = none ∧
  ∀ (Rl : Env → St → Prop) (Hs H : Hp) ρ σ vs ds (Q : St → Hp → Prop), Stores Hs (slotsL ts) Rl → Same Hs H → Rl ρ σ → DdAll Hs vs ds → ∀ ρ', asgT.asgTs ts ds ρ = .ok ρ' → (∀ σ', Rl ρ' σ' → Q σ' H) → g vs σ H Q
def tgK (c : Cc) (i : Nat) : List Tg → List Expr → Bool
  | [], [] => true
  | .nm j :: ts, .Name y _ :: es => atN c j y && isLc c y && decide (i ≠ j) && tgK c i ts es
  | _, _ => false
theorem dgsk_of {c : Cc} (hX : InC c X) : ∀ (ts : List Tg) (es : List Expr), tgK c i ts es = true → DGsk X i ts es
  | [], [], _ => by
    refine ⟨_, pgk_nil, rfl, rfl, fun Rl Hs H ρ σ vs ds Q hs sub r hd ρ' e hq => ?_⟩
    cases ds with
    | nil => cases hd; cases e; exact ⟨rfl, hq _ r⟩
    | cons d ds => cases e
  | .nm j :: ts, .Name y p :: es, h => by
    simp only [tgK, Bool.and_eq_true, decide_eq_true_eq] at h
    obtain ⟨⟨⟨h1, h2⟩, h3⟩, h4⟩ := h
    obtain ⟨gs, hgs, hl, hf, qs⟩ := dgsk_of hX ts es h4
    have ea : assignEach (.Name y p :: es) X.env = (false, assign (.Name y p) X.env) :: assignEach es X.env := assign_cons rfl
    refine ⟨_, pgk_cons hX.nd (at_N hX h1) (is_Lc hX h2) h3 hgs, by rw [ea]; simp [hl], by rw [ea, List.findIdx?_cons, hf]; rfl, fun Rl Hs H ρ σ vs ds Q hs sub r hd ρ' ee hq => ?_⟩
    cases ds with
    | nil => cases ee
    | cons d ds =>
      cases hd with
      | @cons v vs _ _ hd1 hd2 =>
        have ee : asgT.asgTs ts ds (ρ.set j (.da d)) = .ok ρ' := ee
        refine ⟨v, vs, rfl, ?_⟩
        exact qs Rl Hs H _ _ vs ds Q (hs.sub fun i hi => by simp [slotsL, hi]) sub (hs ρ σ j v d (by simp [slotsL, Tg.slots]) r hd1) hd2 ρ' ee hq
  | [], _ :: _, h => by simp [tgK] at h
  | .nm _ :: _, [], h => by simp [tgK] at h
  | .tp _ :: _, [], h => by simp [tgK] at h
  | .tp _ :: _, _ :: _, h => by simp [tgK] at h
  | .nm _ :: _, .BoolOp .. :: _, h => by simp [tgK] at h
  | .nm _ :: _, .NamedExpr .. :: _, h => by simp [tgK] at h
  | .nm _ :: _, .BinOp .. :: _, h => by simp [tgK] at h
  | .nm _ :: _, .UnaryOp .. :: _, h => by simp [tgK] at h
  | .nm _ :: _, .Lambda .. :: _, h => by simp [tgK] at h
  | .nm _ :: _, .IfExp .. :: _, h => by simp [tgK] at h
  | .nm _ :: _, .Dict .. :: _, h => by simp [tgK] at h
  | .nm _ :: _, .Set .. :: _, h => by simp [tgK] at h
  | .nm _ :: _, .ListComp .. :: _, h => by simp [tgK] at h
  | .nm _ :: _, .SetComp .. :: _, h => by simp [tgK] at h
  | .nm _ :: _, .DictComp .. :: _, h => by simp [tgK] at h
  | .nm _ :: _, .GeneratorExp .. :: _, h => by simp [tgK] at h
  | .nm _ :: _, .Await .. :: _, h => by simp [tgK] at h
  | .nm _ :: _, .Yield .. :: _, h => by simp [tgK] at h
  | .nm _ :: _, .YieldFrom .. :: _, h => by simp [tgK] at h
  | .nm _ :: _, .Compare .. :: _, h => by simp [tgK] at h
  | .nm _ :: _, .Call .. :: _, h => by simp [tgK] at h
  | .nm _ :: _, .FormattedValue .. :: _, h => by simp [tgK] at h
  | .nm _ :: _, .JoinedStr .. :: _, h => by simp [tgK] at h
  | .nm _ :: _, .Constant .. :: _, h => by simp [tgK] at h
  | .nm _ :: _, .Attribute .. :: _, h => by simp [tgK] at h
  | .nm _ :: _, .Subscript .. :: _, h => by simp [tgK] at h
  | .nm _ :: _, .Starred .. :: _, h => by simp [tgK] at h
  | .nm _ :: _, .List .. :: _, h => by simp [tgK] at h
  | .nm _ :: _, .Tuple .. :: _, h => by simp [tgK] at h
  | .nm _ :: _, .Slice .. :: _, h => by simp [tgK] at h
theorem dsk_unp {ts : List Tg} {es : List Expr} {k : Nat} {tp : Pos} (hc : X.calm = true) (he : DEk X i W e m) (hg : DGsk X i ts es) (hs : noComp e = true) (hw : noPar (.Tuple es k tp) e = true) :
    DSk X i W (.Assign [.Tuple es k tp] e pos) (fun ρ => (m ρ).bind fun d => (asgT (.tp ts) d ρ).bind fun ρ' => .ok (.nx ρ')) := by
  obtain ⟨t, p, q⟩ := he
  obtain ⟨g, pg, hl, hf, qg⟩ := hg
  refine ⟨_, psk_unp hc p pg hl hf (show swapsWith e (some (.Tuple es k tp)) pos.line X.env = pure false from swaps_no hs) (par_no hw), fun Hs0 H0 Hst ρ σ Hs H D r sm h => ?_⟩
  refine q ρ σ Hs H _ r.base (h.bind r.grow fun d v Hs1 H1 _ e1 o1 h1 => ?_)
  have h1 : PostS X.mg W Hs0 H0 Hst ((asgT (.tp ts) d ρ).bind fun ρ' => .ok (.nx ρ')) D := h1
  cases ha : asgT (.tp ts) d ρ with
  | stuck => rw [ha] at h1; exact h1.elim
  | exc c => exact absurd ha (asgT_noexc _ d ρ c)
  | ok ρ1 =>
    rw [ha] at h1
    have hfin : ∀ σ' Hs' H', Rel Hs0 H0 ρ1 σ' Hs' H' → Same Hst Hs' → D.nx σ' H' := h1
    clear h1
    cases d with
    | tuple ds =>
      cases o1 with
      | @tup a xs _ g1 g2 =>
        have ha : asgT.asgTs ts ds ρ = .ok ρ1 := ha
        refine ⟨a, xs, rfl, .inl (rdS e1.sub g1), by rw [dpaLen g2]; exact asgTs_len ts ds ρ ρ1 ha, ?_⟩
        exact qg (fun ρ2 σ2 => Rel Hs0 H0 ρ2 σ2 Hs1 H1) Hs1 H1 ρ σ xs ds _ (fun ρ2 σ2 j v e' _ rr hv => rr.store hv) e1.sub (r.ext e1) g2 ρ1 ha fun σ' r' => hfin σ' Hs1 H1 r' (sm.trans e1.s)
    | _ => cases ha
theorem dsk_par {j n : Nat} {x y : Str} {a b : Expr} {px py pt pt2 : Pos} {kt k2 : Nat} {ma mb : Env → R PyData} (hc : X.calm = true) (hN : X.N.Nodup) (hi : X.N[j]? = some x) (hj : X.N[n]? = some y) (hij : j ≠ n) (n1 : i ≠ j) (n2 : i ≠ n)
    (hx : X.env.scope.names.lookup x = some .local) (hy : X.env.scope.names.lookup y = some .local) (sa : noStar a = true) (sb : noStar b = true) (ha : DEk X i W a ma) (hb : DEk X i W b mb)
    (hw : swappedStores [.Tuple [.Name x px, .Name y py] kt pt] (.Tuple [a, b] k2 pt2) X.env = pure (some [x, y])) :
    DSk X i W (.Assign [.Tuple [.Name x px, .Name y py] kt pt] (.Tuple [a, b] k2 pt2) pos) (fun ρ => (ma ρ).bind fun d => (mb ρ).bind fun e => .ok (.nx ((ρ.set j (.da d)).set n (.da e)))) := by
  obtain ⟨ta, pa, qa⟩ := ha
  obtain ⟨tb, pb, qb⟩ := hb
  refine ⟨_, psk_par hc hN hi hj hij n1 n2 hx hy (pka_cons pa (pka_cons pb pka_nil (star_cons sb)) (star_cons sa)) hw (show swapsWith (.Tuple [a, b] k2 pt2) (some (.Tuple [.Name x px, .Name y py] kt pt)) pos.line X.env = pure false from swaps_no rfl), fun Hs0 H0 Hst ρ σ Hs H D r sm h => ?_⟩
  refine qa ρ σ Hs H _ r.base (h.bind r.grow fun d v Hs1 H1 _ e1 o1 h1 => ?_)
  refine qb ρ σ Hs1 H1 _ (r.base.ext e1) (PostS.bind (r.grow.trans e1) h1 fun e u Hs2 H2 _ e2 o2 h2 => ?_)
  refine ⟨v, u, rfl, ?_⟩
  exact h2 _ Hs2 H2 ((((r.ext e1).ext e2).store (dpMono e2.s d o1)).store o2) ((sm.trans e1.s).trans e2.s)
end
/-! #### loops over a text -/
section
variable {X : Cx} {i j : Nat} {W : WX} {pos : Pos} {iter : Expr} {body : List Stmt} {y : Str} {py : Pos} {mp : Env → R PyData} {mb : Env → R Out}
/-- a text's signs, one by one -/
def loopX (mb : Env → R Out) (j : Nat) (ds : List PyData) (ρ : Env) : R Out := loopF (fun d ρ => (asgT (.nm j) d ρ).bind fun ρ' => mb ρ') ds ρ
def txt : PyData → Option Str
  | .str z => some z
  | _ => none
theorem loop_of {z : Str} {tb : TS} (qb : ∀ Hs0 H0 Hst ρ σ Hs H D, Rel Hs0 H0 ρ σ Hs H → Same Hst Hs → PostS X.mg W Hs0 H0 Hst (mb ρ) D → tb D σ H) {Hs0 H0 Hst : Hp} {ρ : Env} {σ : St} {Hs H : Hp} {D : Ends} (r : Rel Hs0 H0 ρ σ Hs H) (sm : Same Hst Hs) (hz : PyData.strOk z = true)
    (h : PostS X.mg W Hs0 H0 Hst (loopX mb j (signs1 z) ρ) D) : LoopT z j tb D σ H := by
  have hl : (signs1 z).length = z.cps.size := by unfold signs1; simp
  refine ⟨fun k σ' H' => ∃ ρ' Hs', Rel Hs0 H0 ρ' σ' Hs' H' ∧ Same Hst Hs' ∧ PostS X.mg W Hs0 H0 Hst (loopX mb j ((signs1 z).drop k) ρ') D, ⟨ρ, Hs, r, sm, h⟩, fun k c σ' H' hc ⟨ρ', Hs', r', sm', h'⟩ => ?_, fun σ' H' ⟨ρ', Hs', r', sm', h'⟩ => ?_⟩
  · have hk : k < z.cps.size := (Array.getElem?_eq_some_iff.mp hc).1
    have hd : (signs1 z)[k]? = some (.str ⟨#[c]⟩) := by
      unfold signs1
      rw [List.getElem?_map, Array.getElem?_toList, hc]; rfl
    have hds : (signs1 z).drop k = .str ⟨#[c]⟩ :: (signs1 z).drop (k + 1) := by
      have hk' : k < (signs1 z).length := by rw [hl]; exact hk
      rw [List.drop_eq_getElem_cons hk']
      rw [List.getElem?_eq_getElem hk'] at hd
      rw [Option.some.inj hd]
    rw [hds] at h'
    have h' : PostS X.mg W Hs0 H0 Hst ((mb (ρ'.set j (.da (.str ⟨#[c]⟩)))).next fun ρ2 => loopX mb j ((signs1 z).drop (k + 1)) ρ2) D := h'
    have ho : PyData.strOk ⟨#[c]⟩ = true := by
      have h1 : z.cps.all (· < 0x110000) = true := hz
      rw [Array.all_eq_true] at h1
      have := h1 k hk
      rw [Array.getElem?_eq_getElem hk] at hc
      cases hc
      show (#[_] : Array Nat).all (· < 0x110000) = true
      simpa using this
    exact qb Hs0 H0 Hst _ _ Hs' H' _ (r'.store (.str _ ho)) sm' ((h'.next fun ρ3 σ3 Hs3 H3 r3 s3 q3 => ⟨ρ3, Hs3, r3, s3, q3⟩).same rfl rfl)
  · rw [← hl, List.drop_length] at h'
    exact h' σ' Hs' H' r' sm'
theorem str_only {r : R PyData} {g : PyData → R Out} (hg : ∀ d, txt d = none → g d = .stuck) {mg : Str → Option Value} {Hs0 H0 Hst Hs H : Hp} {D : Ends} {σ : St} {Q : VK} (e0 : Ext Hs0 H0 Hs H) (h : PostS mg W Hs0 H0 Hst (r.bind g) D)
    (k : ∀ z Hs1 H1, Ext Hs H Hs1 H1 → PyData.strOk z = true → PostS mg W Hs0 H0 Hst (g (.str z)) D → Q (.str z) H1) : PostG (ExcM mg W σ) Hs H r okD Q :=
  h.bind e0 fun d v Hs1 H1 _ e1 o1 h1 => by
    cases d with
    | str z => cases o1 with | str _ ho => exact k z Hs1 H1 e1 ho h1
    | none => rw [hg _ rfl] at h1; exact h1.elim
    | bool _ => rw [hg _ rfl] at h1; exact h1.elim
    | int _ => rw [hg _ rfl] at h1; exact h1.elim
    | list _ => rw [hg _ rfl] at h1; exact h1.elim
    | tuple _ => rw [hg _ rfl] at h1; exact h1.elim
    | dict _ => rw [hg _ rfl] at h1; exact h1.elim
def loopD (mb : Env → R Out) (j : Nat) (ρ : Env) (d : PyData) : R Out := match d with
  | .str z => loopX mb j (signs1 z) ρ
  | _ => .stuck
theorem dsd_for (hp : PassesOwn (model X.prog X.w) X.A X.env X.xe) (hc : X.calm = true) (hN : X.N.Nodup) (hj : X.N[j]? = some y) (hy : Loc X.env.scope y) (hf : X.fn y = true ∨ X.env.scope.names.lookup y = some .local) (hi : DEk X i W iter mp) (hb : DSsk X j W body mb)
    (hs : ∀ x, foldedSetIterable iter X.env x = pure x) : DSd X i W (.For (.Name y py) iter body [] pos) (fun ρ => (mp ρ).bind fun d => loopD mb j ρ d) := by
  obtain ⟨te, pe, qe⟩ := hi
  obtain ⟨tb, pb, qb⟩ := hb
  refine ⟨_, psd_for hp hc hN hj hy hf pe pb hs, fun Hs0 H0 Hst ρ σ Hs H D r sm h => ?_⟩
  refine qe ρ σ Hs H _ r.base (str_only (fun d hd => by cases d <;> first | rfl | cases hd) r.grow h fun z Hs1 H1 e1 hz h1 => ?_)
  exact ⟨z, rfl, loop_of qb (r.ext e1) (sm.trans e1.s) hz h1⟩
theorem ds1_for (hp : PassesOwn (model X.prog X.w) X.A X.env X.xe) (hc : X.calm = true) (hN : X.N.Nodup) (hj : X.N[j]? = some y) (hy : Loc X.env.scope y) (hf : X.fn y = true ∨ X.env.scope.names.lookup y = some .local) (hi : DE X W iter mp) (hb : DSsk X j W body mb)
    (hs : ∀ x, foldedSetIterable iter X.env x = pure x) : DS1 X W (.For (.Name y py) iter body [] pos) (fun ρ => (mp ρ).bind fun d => loopD mb j ρ d) := by
  obtain ⟨te, pe, qe⟩ := hi
  obtain ⟨tb, pb, qb⟩ := hb
  refine ⟨_, ps1_for hp hc hN hj hy hf pe pb hs, fun Hs0 H0 Hst ρ σ Hs H D r sm h => ?_⟩
  refine qe ρ σ Hs H _ r.base (str_only (fun d hd => by cases d <;> first | rfl | cases hd) r.grow h fun z Hs1 H1 e1 hz h1 => ?_)
  exact ⟨z, rfl, loop_of qb (r.ext e1) (sm.trans e1.s) hz h1⟩
theorem ds_forC {z : Str} {kz : Nat} {pz : Pos} (hp : PassesOwn (model X.prog X.w) X.A X.env X.xe) (hc : X.calm = true) (hN : X.N.Nodup) (hj : X.N[j]? = some y) (hy : Loc X.env.scope y) (hf : X.fn y = true ∨ X.env.scope.names.lookup y = some .local) (hz : PyData.strOk z = true) (hb : DSsk X j W body mb) :
    DS X W (.For (.Name y py) (.Constant (.str z) kz pz) body [] pos) (fun ρ => loopX mb j (signs1 z) ρ) := by
  obtain ⟨tb, pb, qb⟩ := hb
  refine ⟨_, ps_forC hp hc hN hj hy hf pb (not_set rfl _), fun Hs0 H0 Hst ρ σ Hs H D r sm h => ?_⟩
  exact loop_of qb r sm hz h
theorem dss_first {e : Expr} {l : List Stmt} {m : Env → R PyData} {m2 : Env → R Out} (hN : X.N.Nodup) (hj : X.N[j]? = some y) (hy : X.env.scope.names.lookup y = some .local) (hc : noComp e = true) (he : DE X W e m) (hr : DSs1 X W l m2) :
    DSs X W (.Assign [.Name y py] e pos :: l) (fun ρ => ((m ρ).bind fun d => .ok (.nx (ρ.set j (.da d)))).next m2) := by
  obtain ⟨te, pe, qe⟩ := he
  obtain ⟨tr, pr, qr⟩ := hr
  refine ⟨_, pss_first hN hj hy pe (swaps_no hc) pr, fun Hs0 H0 Hst ρ σ Hs H D r sm h => ?_⟩
  have h' : PostS X.mg W Hs0 H0 Hst ((m ρ).bind fun d => m2 (ρ.set j (.da d))) D := by
    dsimp only at h
    cases h1 : m ρ <;> rw [h1] at h <;> exact h
  refine qe ρ σ Hs H _ r.base (h'.bind r.grow fun d v Hs1 H1 _ e1 o1 h1 => ?_)
  exact qr Hs0 H0 Hst _ _ Hs1 H1 D ((r.ext e1).store o1) (sm.trans e1.s) h1
end
end QB
/-! ### tokens: a comprehension over a written text -/
namespace QB
open PySem L2 PyProof.Rows
theorem itType_or (x : Str) : strIterType x = "str_ascii_iterator" ∨ strIterType x = "str_iterator" := by
  unfold strIterType
  split
  · exact .inl rfl
  · exact .inr rfl
section
variable {X : Cx} {j : Nat} {W : WX}
theorem DEk.pe {i : Nat} {e : Expr} {m : Env → R PyData} (h : DEk X i W e m) : PEt X i e (tDE X.mg W m) := by
  obtain ⟨t, p, q⟩ := h
  refine ⟨fun pins s σ H Q I T ⟨ρ, Hs, r, hp⟩ => p.run pins s σ H Q I T (q ρ σ Hs H Q r hp)⟩
theorem pe_lcT {elt : Expr} {y : Str} {py pz pos : Pos} {z : Str} {kz : Nat} {scope : Scope} {own : List (Str × Nat)} {te : TE} (hc : X.calm = true) (hN : X.N.Nodup) (hj : X.N[j]? = some y) (ok : BlkOk X.N X.env.scope scope own) (hy : (relS scope X.env.scope).names.lookup y = some .local)
    (he : ∀ (s : Shared) (H : Hp) (C : Addr) (cl : List (Str × Addr)) (fp : List Addr), PEt (X.blk s H scope (compEnvC scope cl C X.env) fp) j elt te) :
    PE X (.ListComp elt [⟨.Name y py, .Constant (.str z) kz pz, [], 0⟩] scope pos) (tLc (fun _ H R => R (Its z) H) (gName j) tYes te (own.map (·.2))) := by
  refine ⟨fun pins s σ H Q I h => ?_⟩
  rw [eval_ListComp]
  have hfree : ∀ y ∈ scope.names, y.2 = .free → ∃ c, X.env.cells.lookup y.1 = some c := fun y hy e => by
    rcases ok.free y hy e with k | k
    · exact I.ok.has _ (.inl k)
    · exact I.ok.has _ (.inr k)
  refine wpAny_comprehension_free (use := none) rfl (fun x => rfl) (closure_ok hfree) ok.kind (fun y hy e => by rw [ok.uniq y hy, e]) (Calls.Constant_str (k := kz) (pos := pz) (wpAny_pyIter_strU ?_))
  generalize hs1 : ({ s with toks := s.toks + 1 } : Shared) = s1
  have h1t : 1 ≤ s1.toks := by rw [← hs1]; exact Nat.succ_le_succ (Nat.zero_le _)
  have I1 : Inv X pins σ H s1 := by rw [← hs1]; exact I.tok _
  have e1 : s1.heap = s.heap := by rw [← hs1]
  generalize hit : s1.heap.objs.size = it
  generalize ht0 : s.toks = t0
  generalize hs2 : ({ s1 with heap := s1.heap.push { cls := .type (strIterType z), data := .fields #[.str z t0, .int 0 0] } } : Shared) = s2
  have T := turn_str (P := X.prog) (w := X.w) (K := X.K) (tg := .Name y py) it z t0 (strIterType z) (itType_or z)
  have h2t : 1 ≤ s2.toks := by rw [← hs2]; exact h1t
  have I2 : Inv X pins σ H s2 := by rw [← hs2]; exact I1.kept (t' := s1.toks) fun b o e => Heap.get?_push_of_some _ e
  have st2 : s2.heap.IsStrIter it (strIterType z) z t0 0 := by rw [← hs2, ← hit]; exact ⟨_, Heap.get?_push_size _ rfl, rfl, rfl⟩
  have f2 : FpOk X pins H it := I1.fpOk (Nat.le_of_eq hit) (I1.hok.fresh (Nat.le_of_eq hit))
  refine wpAny_newObj_type (newEnv_comp ?_) (by show 0 ≤ sizeLine; decide)
  generalize hD : s2.heap.objs.size = D
  have hDn : H D = none := I2.hok.fresh (Nat.le_of_eq hD)
  obtain ⟨Wn, ⟨m0, w0⟩, turn⟩ := h D hDn
  generalize hs3 : ({ s2 with heap := s2.heap.push { cls := .type "list", data := .seq ([] : List Value).toArray } } : Shared) = s3
  have I3 : Inv X pins σ (upd H D (.lst [])) s3 := by
    rw [← hs3]
    refine I2.laid (t' := s2.toks) (fun b o e => Heap.get?_push_of_some _ e) (Nat.le_of_eq hD) ⟨Nat.zero_le _, [], 0, .nil, ?_⟩
    rw [← hD]
    exact Heap.get?_push_size _ rfl
  have h3t : 1 ≤ s3.toks := by rw [← hs3]; exact h2t
  have h3 : s3.heap = s2.heap.push { cls := .type "list", data := .seq ([] : List Value).toArray } := by rw [← hs3]
  have hlt : it < s2.heap.objs.size := by obtain ⟨o, e, _⟩ := st2; exact Heap.lt_size e
  have f3 : ∀ b ∈ [it], FpOk X pins (upd H D (.lst [])) b ∧ b < s3.heap.objs.size := fun b hb => by
    have e : b = it := by simpa using hb
    subst e
    refine ⟨⟨?_, f2.2⟩, by rw [h3, Heap.size_push]; exact Nat.lt_succ_of_lt hlt⟩
    rw [upd_ne (by rw [← hD]; exact Nat.ne_of_lt hlt)]
    exact f2.1
  have st3 : s3.heap.IsStrIter it (strIterType z) z t0 0 := T.keep _ _ _ st2 fun b _ o e => by rw [h3]; exact Heap.get?_push_of_some _ e
  have I4 := block_start I3 ok hN f3
  have pe := he s3 (upd H D (.lst [])) s3.heap.objs.size (cellsFrom (s3.heap.objs.size + 1) scope.names (cloFrom X.env.cells scope.names [])) [it]
  show codeAny _ _ (.compStart (.ListComp elt [⟨.Name y py, .Constant (.str z) kz pz, [], 0⟩] scope pos) 0 (.ref it) (.ref D) (compEnvC scope (cellsFrom (s3.heap.objs.size + 1) scope.names (cloFrom X.env.cells scope.names [])) s3.heap.objs.size X.env)) (compPost (model X.prog X.w) X.A X.xe none (EP X pins σ Q) (.ref D) s3.heap.objs.size) { s3 with heap := pushCells (s3.heap.push { cls := .type "dict", data := .dict #[] }) scope.names }
  have nfp : ∀ b ∈ [it], (upd H D (.lst [])) b = none := fun b hb => (f3 b hb).1.1
  have hsc : (compEnvC scope (cellsFrom (s3.heap.objs.size + 1) scope.names (cloFrom X.env.cells scope.names [])) s3.heap.objs.size X.env).scope = relS scope X.env.scope := rfl
  generalize hce : compEnvC scope (cellsFrom (s3.heap.objs.size + 1) scope.names (cloFrom X.env.cells scope.names [])) s3.heap.objs.size X.env = ce at I4 pe hsc ⊢
  have cL : ce.locals = s3.heap.objs.size := by subst hce; rfl
  generalize hH3 : upd H D (.lst []) = H3 at I3 I4 pe w0 nfp f3
  have h4t : 1 ≤ ({ s3 with heap := pushCells (s3.heap.push { cls := .type "dict", data := .dict #[] }) scope.names } : Shared).toks := h3t
  generalize hs4 : ({ s3 with heap := pushCells (s3.heap.push { cls := .type "dict", data := .dict #[] }) scope.names } : Shared) = s4 at I4 h4t ⊢
  have st4 : s4.heap.IsStrIter it (strIterType z) z t0 0 := T.keep _ _ _ st3 fun b _ o e => by rw [← hs4]; exact pushCells_keeps _ _ _ _ (Heap.get?_push_of_some _ e)
  have stat : ∀ {σ' : L2.St} {H' : Hp} {s' : Shared}, Inv (X.blk s3 H3 scope ce [it]) [] σ' H' s' → (∀ b ∈ [it], H' b = none) → ∀ b ∈ [it], FpOk (X.blk s3 H3 scope ce [it]) [] H' b := fun {σ' H' s'} I' hn b hb =>
    ⟨hn b hb, (I'.ok.exf b hb).1, I'.ok.exfs b hb, .inl hb, fun x c e => (I'.ok.exf b hb).2 x c e, fun p hp => absurd (show p ∈ ([] : List (Addr × Obj)) ++ [] from hp) (by simp)⟩
  have hyb : (X.blk s3 H3 scope ce [it]).env.scope.names.lookup y = some .local := by
    show ce.scope.names.lookup y = some .local
    rw [hsc]; exact hy
  have loop : codeAny (model X.prog X.w) X.A (.compLoop (.ListComp elt [⟨.Name y py, .Constant (.str z) kz pz, [], 0⟩] scope pos) 0 (.ref it) (.ref D) ce) (compPost (model X.prog X.w) X.A X.xe none (EP X pins σ Q) (.ref D) s3.heap.objs.size) s4 := by
    refine compLoop_any (fun n s' => ∃ i H', Inv (X.blk s3 H3 scope ce [it]) [] (wipe σ (own.map (·.2))) H' s' ∧ s'.heap.IsStrIter it (strIterType z) z t0 i ∧ (∀ b ∈ [it], H' b = none) ∧ 1 ≤ s'.toks ∧ Wn i n H') ?_ m0 ⟨0, H3, I4, st4, nfp, h4t, w0⟩
    rintro n s5 ⟨i, H5, I5, st5, n5, t5, w5⟩
    rcases turn i n H5 w5 with ⟨stop, qq⟩ | ⟨go, Nx, hNx, step⟩
    · have td := T.done (X.blk s3 H3 scope ce [it]) rfl rfl rfl hc i [] s5 _ H5 (fun _ _ => False) I5 (stat I5 n5) st5 stop
      refine thnF td fun r s6 ⟨hr, I6⟩ => ?_
      subst hr
      have I7 : Inv X pins σ H5 s6 := I3.call' (ch := [it]) I6.os I6.base I6.hok I6.bare fun b hb => ⟨(f3 b hb).1.2.2.2.1, (f3 b hb).1.2.1, (f3 b hb).1.2.2.2.2.1, (f3 b hb).1.2.2.2.2.2⟩
      have nC : H5 s3.heap.objs.size = none := by
        have z : H5 ce.locals = none := I6.free
        rw [cL] at z
        exact z
      obtain ⟨m, hn, _⟩ := I6.loc
      have hn : s6.heap.Ns ce.locals m := hn
      rw [cL] at hn
      refine ⟨m, hn, fun h'' sb => ?_⟩
      obtain ⟨f0, f1, f2, f3, f4, f5⟩ := I3.fpOk (Nat.le_refl _) nC
      exact ⟨.ref D, H5, I7.turned (t' := s6.toks) (fun b o hb e => (sb.2 b hb).trans e) f0 f1 f3 f4 f5, rfl, qq⟩
    · have hlt : i < z.cps.size := go
      have hcx : z.cps[i]? = some z.cps[i] := by simp [hlt]
      obtain ⟨g0, g1, g2, g3, g4, g5⟩ := stat I5 n5 it (by simp)
      refine next_item st5 hcx fun h' st' sb => ?_
      have I6 : Inv (X.blk s3 H3 scope ce [it]) [] (wipe σ (own.map (·.2))) H5 { s5 with heap := h', toks := s5.toks + 1 } := I5.turned (fun b o hb e => (sb.2 b hb).trans e) g0 g1 g3 g4 g5
      obtain ⟨oi, ei, cc, dd⟩ := id st'
      have hTn : ["enumerate", "zip", "dict_itemiterator", "dict_reverseitemiterator", "odict_iterator", "itertools.zip_longest", "itertools.pairwise"].contains (strIterType z) = false := by
        rcases itType_or z with e | e <;> rw [e] <;> decide
      refine go_of (s := { s5 with heap := h', toks := s5.toks + 1 }) ei cc dd hTn ?_
      have I7' := I6.pinned (stat I6 n5) (T.obj _ _ st')
      have q8 := step (.str ⟨#[z.cps[i]]⟩) H5 ⟨rfl, z.cps[i], hcx, rfl⟩
      obtain ⟨hw8, q9⟩ := q8
      refine wpAny_assign_Name (store_tk (X := X.blk s3 H3 scope ce [it]) I7' hN hj (.inl hyb) (.inr hyb) t5 (Nat.lt_succ_self _) fun s8 I8 T8 => wpAny_tests_nil ?_)
      have t8 : 1 ≤ s8.toks := by
        obtain ⟨_, _, t, _, _, _, _, a, b⟩ := T8
        exact Nat.le_of_lt (Nat.lt_of_le_of_lt a b)
      have fin : ∀ {s' : Shared} {H' : Hp}, Inv (X.blk s3 H3 scope ce [it]) ([] ++ pinsAt [it] h') ((wipe σ (own.map (·.2))).set j (some (.str ⟨#[z.cps[i]]⟩))) H' s' → 1 ≤ s'.toks → Nx H' → ∃ m, m < n ∧ ∃ i H', Inv (X.blk s3 H3 scope ce [it]) [] (wipe σ (own.map (·.2))) H' s' ∧ s'.heap.IsStrIter it (strIterType z) z t0 i ∧ (∀ b ∈ [it], H' b = none) ∧ 1 ≤ s'.toks ∧ Wn i m H' := fun {s' H'} I' t' nx => by
        obtain ⟨m', hm, w'⟩ := hNx H' nx
        have pin' : ∀ b ∈ [it], ∀ o, h'.get? b = some o → s'.heap.get? b = some o ∧ H' b = none := fun b hb o e =>
          let z := I'.pin (b, o) (List.mem_append_right _ (List.mem_append_right _ (mem_pinsAt hb e)))
          ⟨z.1, z.2.1⟩
        have hl : (wipe σ (own.map (·.2))).length = ((wipe σ (own.map (·.2))).set j (some (V.str ⟨#[z.cps[i]]⟩))).length := by simp
        refine ⟨m', hm, i + 1, H', (I'.unpinned (pins := [])).weak hl (fun j' v e => ?_), T.keep _ _ _ st' fun b hb o e => (pin' b hb o e).1, fun b hb => ?_, t', w'⟩
        · rw [← hw8] at e
          exact (wipe_some e).1
        · obtain ⟨o, e, _⟩ := T.obj _ _ st' b hb
          exact (pin' b hb o e).2
      simp only [if_true] at q9 ⊢
      refine thnF (wpAny_mono (wpAny_toks_of t8 (pe.run _ s8 _ H5 _ I8 T8 q9)) (fun _ _ z => z) fun _ _ z => z.2) fun zv s10 ⟨t10, ⟨yv, H10, I10, r10, acc, hD10, hz10, nx⟩, _⟩ => ?_
      refine wpAny_mono (wpAny_toks_of t10 (app_ok (X := X.blk s3 H3 scope ce [it]) (Q := fun _ s11 => Inv (X.blk s3 H3 scope ce [it]) ([] ++ pinsAt [it] h') ((wipe σ (own.map (·.2))).set j (some (.str ⟨#[z.cps[i]]⟩))) (upd H10 D (.lst (acc ++ [yv]))) s11) I10 hD10 hz10 r10 fun s11 I11 => I11)) (fun _ s11 ⟨t11, I11⟩ => fin I11 t11 nx) fun _ _ z => z.2
  exact codeAny_compStart_list loop (T.self X.A 0 _ _ _ st4 loop)
end
end QB
/-! ### tokens: the check of suites, its soundness; defs -/
namespace QB
open PySem L2
section
variable {X : Cx} {j k : Nat} {W : WX} {c : Cc} {TN : List Str}
theorem walkD_txt {Hs : Hp} {z : Str} (ho : PyData.strOk z = true) : WalkD (Its z) Hs (signs1 z) := by
  obtain ⟨S, xs, e, hat, hdd⟩ := seq_sd (Hs := Hs) (u := .str z 0) (Dd.str z ho) ⟨0, rfl⟩ (ds := signs1 z) rfl
  cases S with
  | lst a => cases e
  | tup a => cases e
  | str z' t =>
    cases e
    have hat : xs = signs z := hat
    exact walkD_of hdd (by
      rw [hat]
      have hl : (signs z).length = z.cps.size := by simp [signs]
      rw [hl]
      refine walk_str.mono (fun _ _ => trivial) fun i H x H' _ _ y => ⟨y.1, ?_⟩
      obtain ⟨_, c, hc, rfl⟩ := y
      simp [signs, hc])
theorem de_lcT {elt : Expr} {y : Str} {py pz pos : Pos} {z : Str} {kz : Nat} {scope : Scope} {own : List (Str × Nat)} {pe : P} (hc : X.calm = true) (hN : X.N.Nodup) (hj : X.N[j]? = some y) (ok : BlkOk X.N X.env.scope scope own) (hy : (relS scope X.env.scope).names.lookup y = some .local)
    (hz : PyData.strOk z = true) (hsl : j ∈ own.map (·.2)) (he : ∀ (s : Shared) (H : Hp) (C : Addr) (cl : List (Str × Addr)) (fp : List Addr), DEk (X.blk s H scope (compEnvC scope cl C X.env) fp) j W0 elt (fun ρ => ev pe ρ)) :
    DE X W (.ListComp elt [⟨.Name y py, .Constant (.str z) kz pz, [], 0⟩] scope pos) (fun ρ => ev (.comp (.seq (.cst (.str z))) (.nm j) pe own) ρ) := by
  refine ⟨_, pe_lcT (te := tDE X.mg W0 fun ρ => ev pe ρ) hc hN hj ok hy (fun s H C cl fp => (he s H C cl fp).pe), fun ρ σ Hs H Q r h => ?_⟩
  have h : PostG (Exc X W σ) Hs H (R.when (lok (signs1 z)) ((compL (compF (.nm j) (own.map (·.2)) (fun _ => .ok true) (fun ρ => ev pe ρ) ρ) (signs1 z)).firm.bind fun r => .ok (.list r))) okD Q := h
  obtain ⟨hlim, h1⟩ := PostG.when h
  cases hc : compL (compF (.nm j) (own.map (·.2)) (fun _ => .ok true) (fun ρ => ev pe ρ) ρ) (signs1 z) with
  | stuck => rw [hc] at h1; exact h1.elim
  | exc c => rw [hc] at h1; exact h1.elim
  | ok rs =>
    rw [hc] at h1
    have h1 : PostG (Exc X W σ) Hs H (.ok (.list rs)) okD Q := h1
    intro D hD
    obtain ⟨Wn, w0, turn⟩ := comp_core (X := X) (Q := Q) r (walkD_txt (Hs := Hs) hz) (of_decide_eq_true hlim) (fun i hi => by simp [Tg.slots] at hi; subst hi; exact hsl) hc D hD fun vs Hs' H' e d1 d2 hdd => h1 (.ref D) (upd Hs' D (.lst vs)) H' (ext_own e hD d1 d2) (.lst (.inl upd_same) (dpaMono (same_new d1) _ hdd))
    refine ⟨Wn, w0, fun i m H2 hW => ?_⟩
    rcases turn i m H2 hW with q | ⟨go, Nx, hNx, step⟩
    · exact .inl q
    · refine .inr ⟨go, Nx, hNx, fun x H' y => ?_⟩
      obtain ⟨Rl, Hs2, ρ2, ρ3, d, st, sub, rl, hd, ha, k⟩ := step x H' y
      cases ha
      obtain ⟨hw, ρ4, Hs4, r4, p4⟩ := k _ (st ρ2 _ j x d (by simp [Tg.slots]) rl hd)
      exact ⟨hw, p4 true Hs4 H' (Ext.refl r4.sub) rfl⟩
theorem UseK.blk {u : UseK} (h : u.ok X k) {scope : Scope} (s : Shared) (H : Hp) (C : Addr) (cl : List (Str × Addr)) (fp : List Addr) : u.ok (X.blk s H scope (compEnvC scope cl C X.env) fp) k := by
  cases u with
  | std u => exact Use.blk h s H C cl fp
  | tok x m => exact h
end
/-! #### one statement -/
def endsR : S → Bool
  | .seq (.ret _) .nil => true
  | _ => false
theorem endsR_no {a : S} (h : endsR a = true) (ρ ρ' : Env) : ex a ρ ≠ .ok (.nx ρ') := by
  unfold endsR at h
  split at h
  · rename_i p
    intro z
    have z : (((ev p ρ).bind fun d => (.ok (.rt d) : R Out)).next fun ρ' => .ok (.nx ρ')) = .ok (.nx ρ') := z
    cases q : ev p ρ <;> rw [q] at z <;> cases z
  · cases h
def isNilS : S → Bool
  | .nil => true
  | _ => false
def two : Ps → Option (P × P)
  | .cons p (.cons q .nil) => some (p, q)
  | _ => none
def vNm2 : Stmt → Option (Str × Str × Expr × Expr)
  | .Assign [.Tuple [.Name x _, .Name y _] _ _] (.Tuple [a, b] _ _) _ => some (x, y, a, b)
  | _ => none
def swIs (c : Cc) : Stmt → List Str → Bool
  | .Assign [.Tuple ts _ _] (.Tuple vs _ _) _, l => match swF c.sc ts vs with
    | some (some n) => decide (n = l)
    | _ => false
  | _, _ => false
def vName : Expr → Option Str
  | .Name x _ => some x
  | _ => none
def chkKst (TN : List Str) (c : Cc) (i : Nat) : S → Stmt → Bool
  | .evl p, st => match vEvl st with
    | some e => noComp e && chkK TN c i p e
    | none => false
  | .asg (.nm j) p, st => match vAsg st with
    | some (t, e) => (match vName t with
      | some y => chkK TN c i p e && atN c j y && isLc c y && decide (i ≠ j) && noComp e
      | none => false)
    | none => false
  | .asg (.tp ts) p, st => match vAsg st with
    | some (t, e) => (match vTup t with
      | some es => chkK TN c i p e && tgK c i ts es && noComp e && noPar t e
      | none => false)
    | none => false
  | .par [j, n] ps, st => match two ps, vNm2 st with
    | some (p, q), some (x, y, a, b) => chkK TN c i p a && noStar a && noLst p && chkK TN c i q b && noStar b && noLst q && atN c j x && atN c n y && decide (j ≠ n) && decide (i ≠ j) && decide (i ≠ n) && isLc c x && isLc c y && swIs c st [x, y]
    | _, _ => false
  | .ret p, st => match vRet st with
    | some e => chkK TN c i p e
    | none => false
  | .iff t a b, st => match vIf st with
    | some (te, l1, l2) => chkC TN c i t te && chkSs c a l1 && endsR a && isNilS b && l2.isEmpty
    | none => false
  | _, _ => false
def uKst (TN : List Str) : S → List UseK
  | .evl p => uK TN p
  | .asg _ p => uK TN p
  | .par _ ps => uKs TN ps
  | .ret p => uK TN p
  | .iff t a _ => uC TN t ++ stdU (usesS a)
  | _ => []
def uKS (TN : List Str) : Pl → S → List UseK
  | .std, b => stdU (usesS b)
  | .nxt r, .seq a b => uKst TN a ++ uKS TN r b
  | .loop p, .seq (.forr (.seq e) _ body) rest => uK TN e ++ (uKS TN p body ++ stdU (usesS rest))
  | _, _ => []
def chkKS (TN : List Str) (c : Cc) : Pl → Nat → S → List Stmt → Bool
  | .std, _, b, l => chkSs c b l
  | .nxt r, i, .seq a b, l => match l with
    | st :: l' => chkKst TN c i a st && chkKS TN c r i b l'
    | [] => false
  | .loop p, i, .seq (.forr (.seq e) (.nm j) body) rest, l => match l with
    | st :: l' => (match vFor st with
      | some (te, ie, bl) => (match vName te with
        | some y => chkK TN c i e ie && atN c j y && isLoc c y && notSet ie && chkKS TN c p j body bl && chkSs c rest l'
        | none => false)
      | none => false)
    | [] => false
  | _, _, _, _ => false
section
variable {X : Cx} {k : Nat} {W : WX} {c : Cc} {TN : List Str}
theorem next_bind {α : Type} {r : R α} {g : α → R Out} {k : Env → R Out} (h : ∀ a, (g a).next k = (g a).next k) : (r.bind g).next k = r.bind fun a => (g a).next k := by
  cases r <;> rfl
theorem sndKst (hX : InC c X) (hw : Wd X k) (tk : Takes X W) (hp : PassesOwn (model X.prog X.w) X.A X.env X.xe) {i : Nat} {a : S} {st : Stmt} (hu : OkK X k (uKst TN a)) (h : chkKst TN c i a st = true) : DSk X i W st (fun ρ => ex a ρ) := by
  cases a with
  | evl p =>
    rw [chkKst] at h
    split at h
    · rename_i e hv
      rw [Bool.and_eq_true] at h
      unfold vEvl at hv
      split at hv
      · cases hv; exact dsk_evl h.1 (sndK p hX hw tk hu h.2)
      · cases hv
    · cases h
  | ret p =>
    rw [chkKst] at h
    split at h
    · rename_i e hv
      unfold vRet at hv
      split at hv
      · cases hv; exact dsk_ret (sndK p hX hw tk hu h)
      · cases hv
    · cases h
  | asg tg p =>
    cases tg with
    | nm j =>
      rw [chkKst] at h
      split at h
      · rename_i t e hv
        split at h
        · rename_i y hy
          simp only [Bool.and_eq_true, decide_eq_true_eq] at h
          obtain ⟨⟨⟨⟨h1, h2⟩, h3⟩, h4⟩, h5⟩ := h
          unfold vName at hy
          split at hy
          · cases hy
            unfold vAsg at hv
            split at hv
            · cases hv
              refine (dsk_set hX.nd (at_N hX h2) (is_Lc hX h3) h4 h5 (sndK p hX hw tk hu h1)).congr fun ρ => ?_
              rfl
            · cases hv
          · cases hy
        · cases h
      · cases h
    | tp ts =>
      rw [chkKst] at h
      split at h
      · rename_i t e hv
        split at h
        · rename_i es hy
          simp only [Bool.and_eq_true] at h
          obtain ⟨⟨⟨h1, h2⟩, h3⟩, h4⟩ := h
          unfold vTup at hy
          split at hy
          · cases hy
            unfold vAsg at hv
            split at hv
            · cases hv
              exact dsk_unp hX.calm (sndK p hX hw tk hu h1) (dgsk_of hX ts _ h2) h3 h4
            · cases hv
          · cases hy
        · cases h
      · cases h
  | par is ps =>
    match is with
    | [] => simp [chkKst] at h
    | [_] => simp [chkKst] at h
    | _ :: _ :: _ :: _ => simp [chkKst] at h
    | [j, n] =>
      rw [chkKst] at h
      split at h
      · rename_i p q x y a b hps hv
        simp only [Bool.and_eq_true, decide_eq_true_eq] at h
        obtain ⟨⟨⟨⟨⟨⟨⟨⟨⟨⟨⟨⟨⟨h1, h2⟩, h3⟩, h4⟩, h5⟩, h6⟩, h7⟩, h8⟩, h9⟩, h10⟩, h11⟩, h12⟩, h13⟩, h14⟩ := h
        have hps : ps = .cons p (.cons q .nil) := by
          unfold two at hps
          split at hps
          · cases hps; rfl
          · cases hps
        subst hps
        have hu : OkK X k (uK TN p ++ (uK TN q ++ [])) := hu
        unfold vNm2 at hv
        split at hv
        · cases hv
          unfold swIs at h14
          dsimp only at h14
          split at h14
          case h_2 => cases h14
          rename_i nn hsw
          have hnn := of_decide_eq_true h14
          subst hnn
          rw [← hX.sc] at hsw
          refine (dsk_par hX.calm hX.nd (at_N hX h7) (at_N hX h8) h9 h10 h11 (is_Lc hX h12) (is_Lc hX h13) h2 h5 (sndK p hX hw tk (OkK.l hu) h1) (sndK q hX hw tk (OkK.l (OkK.r hu)) h4) (swF_is (env_kind hX) hsw)).congr fun ρ => ?_
          show _ = ((ev1 p ρ).bind fun d => ((ev1 q ρ).bind fun d' => (R.ok [] : R (List Sl)).bind fun ds => .ok (d' :: ds)).bind fun ds => .ok (d :: ds)).bind fun ds => (setAll [j, n] ds ρ).bind fun ρ' => (R.ok (Out.nx ρ') : R Out)
          rw [ev1_da h3, ev1_da h6]
          cases ev p ρ with
          | ok d =>
            cases ev q ρ with
            | ok e => rfl
            | exc c => rfl
            | stuck => rfl
          | exc c => rfl
          | stuck => rfl
        · cases hv
      · cases h
  | iff t a b =>
    rw [chkKst] at h
    split at h
    · rename_i te l1 l2 hv
      simp only [Bool.and_eq_true] at h
      obtain ⟨⟨⟨⟨h1, h2⟩, h3⟩, h4⟩, h5⟩ := h
      have hb : b = .nil := by cases b <;> first | rfl | cases h4
      have hl : l2 = [] := List.isEmpty_iff.mp h5
      subst hb hl
      unfold vIf at hv
      split at hv
      · cases hv
        exact dsk_if (sndC t hX hw tk (OkK.l hu) h1).1 (sndSs a hX hw tk hp (OkK.std (OkK.r hu)) h2) (endsR_no h3)
      · cases hv
    · cases h
  | _ => simp [chkKst] at h
def isRep : P → Bool
  | .repl _ _ _ => true
  | _ => false
theorem rep3_txt {d e f r : PyData} (h : rep3 d e f = .ok r) : ∃ z, r = .str z := by
  unfold rep3 at h
  split at h
  · rename_i a b c
    cases q : (decide (a.length ≤ 1000 ∧ b.length = 1 ∧ c.length = 0) && PySem.PyData.strOk (PySem.Txt.replace a b c)) <;> rw [q] at h <;> cases h
    exact ⟨_, rfl⟩
  · cases h
theorem loop_rep {e : P} {j : Nat} {body : S} (he : isRep e = true) (ρ : Env) : ((ev e ρ).bind fun d => loopD (fun ρ => ex body ρ) j ρ d) = ex (.forr (.seq e) (.nm j) body) ρ := by
  show _ = (((ev e ρ).bind fun d => R.of (seqOf d) fun ds => .ok ds).bind fun ds => loopF (fun d ρ => (asgT (.nm j) d ρ).bind fun ρ' => ex body ρ') ds ρ)
  cases e with
  | repl a b c =>
    have e1 : ev (.repl a b c) ρ = (ev a ρ).bind fun d => (ev b ρ).bind fun e => (ev c ρ).bind fun f => rep3 d e f := rfl
    rw [e1]
    cases ev a ρ with
    | stuck => rfl
    | exc _ => rfl
    | ok d =>
      cases ev b ρ with
      | stuck => rfl
      | exc _ => rfl
      | ok e =>
        cases ev c ρ with
        | stuck => rfl
        | exc _ => rfl
        | ok f =>
          simp only [R.bind_ok]
          cases hr : rep3 d e f with
          | stuck => rfl
          | exc _ => rfl
          | ok r => obtain ⟨z, rfl⟩ := rep3_txt hr; rfl
  | _ => cases he
theorem app_nil (z : Str) : z ++ ("" : Str) = z := by
  cases z with
  | mk c =>
    show (⟨c ++ (#[] : Array Nat)⟩ : Str) = ⟨c⟩
    simp
def asTxt : P → Option Nat
  | .bi .add (.var n) (.cst (.str z)) => if z = "" then some n else none
  | _ => none
/-- a slot that must hold a text: x + "" -/
theorem loop_txt {e : P} {n j : Nat} {body : S} (he : asTxt e = some n) {ρ : Env} {mg : Str → Option Value} {Hs0 H0 Hst : Hp} {D : Ends} (h : PostS mg W Hs0 H0 Hst (ex (.forr (.seq e) (.nm j) body) ρ) D) :
    PostS mg W Hs0 H0 Hst ((Sl.get ρ[n]?).bind fun d => loopD (fun ρ => ex body ρ) j ρ d) D := by
  unfold asTxt at he
  split at he
  case h_2 => cases he
  rename_i n' z
  split at he
  case isFalse => cases he
  rename_i hz
  cases he
  subst hz
  have e0 : ex (.forr (.seq (.bi .add (.var n) (.cst (.str "")))) (.nm j) body) ρ = (((Sl.get ρ[n]?).bind fun d => bi2 .add d (.str "")).bind fun d => R.of (seqOf d) fun ds => .ok ds).bind fun ds => loopX (fun ρ => ex body ρ) j ds ρ := by
    show ((((Sl.get ρ[n]?).bind fun d => R.when true ((R.ok (.str "")).bind fun e => bi2 .add d e)).bind fun d => R.of (seqOf d) fun ds => .ok ds).bind fun ds => loopX (fun ρ => ex body ρ) j ds ρ) = _
    rfl
  rw [e0] at h
  cases hg : Sl.get ρ[n]? with
  | stuck => rw [hg] at h; exact h
  | exc c => rw [hg] at h; exact h
  | ok d =>
    rw [hg] at h
    cases d with
    | str z =>
      have h : PostS mg W Hs0 H0 Hst (((R.when (decide (z.length + ("" : Str).length ≤ lim)) (.ok (.str (z ++ ("" : Str))) : R PyData)).bind fun d => R.of (seqOf d) fun ds => .ok ds).bind fun ds => loopX (fun ρ => ex body ρ) j ds ρ) D := h
      cases hq : decide (z.length + ("" : Str).length ≤ lim) with
      | false => rw [hq] at h; exact h.elim
      | true =>
        rw [hq, R.when_true, app_nil] at h
        exact h
    | _ => exact h.elim
end
end QB
/-! ### tokens: suites, defs -/
namespace QB
open PySem L2
/-- what is asked of a loop's term: a text for certain -/
def loopsOk : Pl → S → Bool
  | .std, _ => true
  | .nxt r, .seq _ b => loopsOk r b
  | .loop p, .seq (.forr (.seq e) _ body) _ => isRep e && loopsOk p body
  | _, _ => false
def isNameE : Expr → Bool
  | .Name _ _ => true
  | _ => false
section
variable {X : Cx} {k : Nat} {W : WX} {c : Cc} {TN : List Str}
theorem DSsk.congr {i : Nat} {l : List Stmt} {m m' : Env → R Out} (h : DSsk X i W l m) (hm : ∀ ρ, m ρ = m' ρ) : DSsk X i W l m' := by
  have : m = m' := funext hm
  rw [← this]; exact h
theorem DSd.congr {i : Nat} {l : Stmt} {m m' : Env → R Out} (h : DSd X i W l m) (hm : ∀ ρ, m ρ = m' ρ) : DSd X i W l m' := by
  have : m = m' := funext hm
  rw [← this]; exact h
theorem sndKS (hX : InC c X) (hw : Wd X k) (tk : Takes X W) (hp : PassesOwn (model X.prog X.w) X.A X.env X.xe) : ∀ (pl : Pl) (i : Nat) (b : S) (l : List Stmt), OkK X k (uKS TN pl b) → chkKS TN c pl i b l = true → loopsOk pl b = true → DSsk X i W l (fun ρ => ex b ρ)
  | .std, i, b, l, hu, h, _ => dssk_std (sndSs b hX hw tk hp (OkK.std hu) h)
  | .nxt r, i, b, l, hu, h, hl => by
    cases b with
    | seq a b =>
      cases l with
      | nil => cases h
      | cons st l =>
        have h : (chkKst TN c i a st && chkKS TN c r i b l) = true := h
        rw [Bool.and_eq_true] at h
        exact dssk_cons (sndKst hX hw tk hp (OkK.l hu) h.1) (sndKS hX hw tk hp r i b l (OkK.r hu) h.2 hl)
    | _ => simp [chkKS] at h
  | .loop p, i, b, l, hu, h, hl => by
    cases b with
    | seq a rest =>
      cases a with
      | forr it tg body =>
        cases it with
        | seq e =>
          cases tg with
          | nm j =>
            cases l with
            | nil => cases h
            | cons st l =>
              rw [chkKS] at h
              split at h
              · rename_i te ie bl hv
                split at h
                · rename_i y hy
                  simp only [Bool.and_eq_true] at h
                  obtain ⟨⟨⟨⟨⟨h1, h2⟩, h3⟩, h4⟩, h5⟩, h6⟩ := h
                  have hl : (isRep e && loopsOk p body) = true := hl
                  rw [Bool.and_eq_true] at hl
                  have q := sndKS hX hw tk hp p j body bl (OkK.l (OkK.r hu)) h5 hl.2
                  have qe := sndK e hX hw tk (OkK.l hu) h1
                  obtain ⟨l1, l2⟩ := hX.loc h3
                  unfold vName at hy
                  split at hy
                  · cases hy
                    unfold vFor at hv
                    split at hv
                    · cases hv
                      exact dsd_cons ((dsd_for hp hX.calm hX.nd (at_N hX h2) l1 l2 qe q (not_set h4 _)).congr fun ρ => loop_rep hl.1 ρ) (sndSs rest hX hw tk hp (OkK.std (OkK.r (OkK.r hu))) h6)
                    · cases hv
                  · cases hy
                · cases h
              · cases h
          | tp ts => simp [chkKS] at h
        | _ => simp [chkKS] at h
      | _ => simp [chkKS] at h
    | _ => simp [chkKS] at h
end
/-! #### suites ahead of any token -/
inductive OPl where
  | std | nxt (r : OPl) | fst (r : OPl) | forC (b : Pl) (r : OPl) | forV (b : Pl) (r : OPl) | cmp (r : OPl)
def uO (TN : List Str) : OPl → S → List UseK
  | .std, b => stdU (usesS b)
  | .nxt r, .seq a b => stdU (usesS a) ++ uO TN r b
  | .fst r, .seq (.asg _ p) b => stdU (usesP p) ++ uO TN r b
  | .forC pl r, .seq (.forr _ _ body) rest => uKS TN pl body ++ uO TN r rest
  | .forV pl r, .seq (.forr _ _ body) rest => uKS TN pl body ++ uO TN r rest
  | .cmp r, .seq (.asg _ (.bi _ a (.comp _ _ elt _))) rest => stdU (usesP a) ++ (uK TN elt ++ uO TN r rest)
  | _, _ => []
def isFrz : S → Bool
  | .frz _ => true
  | _ => false
def cTxt : P → Option Str
  | .cst (.str z) => some z
  | _ => none
def vCmpS : Stmt → Option (Expr × Expr × CompV)
  | .Assign [t] (.BinOp x .Add y _) _ => (vComp y).map fun v => (t, x, v)
  | _ => none
def chkO (TN : List Str) (c : Cc) : Bool → OPl → S → List Stmt → Bool
  | _, .std, b, l => chkSs c b l
  | m, .nxt r, .seq a b, l => cond (isFrz a) (chkO TN c m r b l) (match l with
    | st :: l' => chkS c a st && chkO TN c m r b l'
    | [] => false)
  | false, .fst r, .seq (.asg (.nm j) p) b, l => match l with
    | st :: l' => (match vAsg st with
      | some (t, e) => (match vName t with
        | some y => chkE c p e && atN c j y && isLc c y && noComp e && chkO TN c true r b l'
        | none => false)
      | none => false)
    | [] => false
  | m, .forC pl r, .seq (.forr (.seq e) (.nm j) body) rest, l => match l with
    | st :: l' => (match vFor st with
      | some (te, ie, bl) => (match vName te, cTxt e, vStr ie with
        | some y, some z, some z' => decide (z' = z) && PyData.strOk z && atN c j y && isLoc c y && chkKS TN c pl j body bl && loopsOk pl body && chkO TN c m r rest l'
        | _, _, _ => false)
      | none => false)
    | [] => false
  | true, .forV pl r, .seq (.forr (.seq e) (.nm j) body) rest, l => match l with
    | st :: l' => (match vFor st with
      | some (te, ie, bl) => (match vName te, asTxt e, vName ie with
        | some y, some n, some x => nameB c n x && atN c j y && isLoc c y && chkKS TN c pl j body bl && loopsOk pl body && chkO TN c true r rest l'
        | _, _, _ => false)
      | none => false)
    | [] => false
  | m, .cmp r, .seq (.asg tg (.bi .add a (.comp (.seq e) (.nm j) elt own))) rest, l => match l with
    | st :: l' => (match vCmpS st with
      | some (t, x, v) => (match vName v.tg, cTxt e, vStr v.iter with
        | some y, some z, some z' => decide (z' = z) && PyData.strOk z && atN c j y && isLc (c.blk v.scope) y && decide (j ∈ own.map (·.2)) && v.ifs.isEmpty && blkC c.N c.sc v.scope own && chkE c a x && chkK TN (c.blk v.scope) j elt v.elt && tgB c tg t && noStar t && isNameE t && chkO TN c m r rest l'
        | _, _, _ => false)
      | none => false)
    | [] => false
  | _, _, _, _ => false
section
variable {X : Cx} {k : Nat} {W : WX} {c : Cc} {TN : List Str}
theorem DSs1.congr {l : List Stmt} {m m' : Env → R Out} (h : DSs1 X W l m) (hm : ∀ ρ, m ρ = m' ρ) : DSs1 X W l m' := by
  have : m = m' := funext hm
  rw [← this]; exact h
theorem DS1.imp {st : Stmt} {m m' : Env → R Out} (h : DS1 X W st m) (hm : ∀ Hs0 H0 Hst ρ D, PostS X.mg W Hs0 H0 Hst (m' ρ) D → PostS X.mg W Hs0 H0 Hst (m ρ) D) : DS1 X W st m' :=
  let ⟨t, p, q⟩ := h; ⟨t, p, fun Hs0 H0 Hst ρ σ Hs H D r sm h => q Hs0 H0 Hst ρ σ Hs H D r sm (hm _ _ _ _ _ h)⟩
theorem chkO_nxt {m : Bool} {r : OPl} {a b : S} {l : List Stmt} : chkO TN c m (.nxt r) (.seq a b) l = cond (isFrz a) (chkO TN c m r b l) (match l with
    | st :: l' => chkS c a st && chkO TN c m r b l'
    | [] => false) := by cases m <;> rfl
theorem chkO_forC {m : Bool} {pl : Pl} {r : OPl} {e : P} {j : Nat} {body rest : S} {st : Stmt} {l : List Stmt} : chkO TN c m (.forC pl r) (.seq (.forr (.seq e) (.nm j) body) rest) (st :: l) = (match vFor st with
      | some (te, ie, bl) => (match vName te, cTxt e, vStr ie with
        | some y, some z, some z' => decide (z' = z) && PyData.strOk z && atN c j y && isLoc c y && chkKS TN c pl j body bl && loopsOk pl body && chkO TN c m r rest l
        | _, _, _ => false)
      | none => false) := by cases m <;> rfl
theorem chkO_cmp {m : Bool} {r : OPl} {tg : Tg} {a elt e : P} {j : Nat} {own : List (Str × Nat)} {rest : S} {st : Stmt} {l : List Stmt} : chkO TN c m (.cmp r) (.seq (.asg tg (.bi .add a (.comp (.seq e) (.nm j) elt own))) rest) (st :: l) = (match vCmpS st with
      | some (t, x, v) => (match vName v.tg, cTxt e, vStr v.iter with
        | some y, some z, some z' => decide (z' = z) && PyData.strOk z && atN c j y && isLc (c.blk v.scope) y && decide (j ∈ own.map (·.2)) && v.ifs.isEmpty && blkC c.N c.sc v.scope own && chkE c a x && chkK TN (c.blk v.scope) j elt v.elt && tgB c tg t && noStar t && isNameE t && chkO TN c m r rest l
        | _, _, _ => false)
      | none => false) := by cases m <;> rfl
theorem chkO_std {m : Bool} {b : S} {l : List Stmt} : chkO TN c m .std b l = chkSs c b l := by cases m <;> rfl
theorem sndO (hX : InC c X) (hw : Wd X k) (tk : Takes X W) (hp : PassesOwn (model X.prog X.w) X.A X.env X.xe) : ∀ (pl : OPl) (m : Bool) (b : S) (l : List Stmt), OkK X k (uO TN pl b) → chkO TN c m pl b l = true → cond m (DSs1 X W l (fun ρ => ex b ρ)) (DSs X W l (fun ρ => ex b ρ))
  | .std, m, b, l, hu, h => by
    rw [chkO_std] at h
    have q := sndSs b hX hw tk hp (OkK.std hu) h
    cases m with
    | true => exact dss1_of q
    | false => exact q
  | .nxt r, m, b, l, hu, h => by
    cases b with
    | seq a b =>
      rw [chkO_nxt] at h
      cases hf : isFrz a with
      | true =>
        rw [hf] at h
        have q := sndO hX hw tk hp r m b l (OkK.r hu) h
        cases a with
        | frz i =>
          cases m with
          | true => exact dss1_frz (j := i) q
          | false => exact dss_frz (i := i) q
        | _ => cases hf
      | false =>
        rw [hf] at h
        cases l with
        | nil => cases h
        | cons st l =>
          have h : (chkS c a st && chkO TN c m r b l) = true := h
          rw [Bool.and_eq_true] at h
          have q1 := sndS a hX hw tk hp (OkK.std (OkK.l hu)) h.1
          have q2 := sndO hX hw tk hp r m b l (OkK.r hu) h.2
          cases m with
          | true => exact dss1_cons (ds1_of q1) q2
          | false => exact dss_cons q1 q2
    | _ => cases m <;> simp [chkO] at h
  | .fst r, m, b, l, hu, h => by
    cases m with
    | true => cases b <;> simp [chkO] at h
    | false =>
      cases b with
      | seq a b =>
        cases a with
        | asg tg p =>
          cases tg with
          | tp _ => simp [chkO] at h
          | nm j =>
            cases l with
            | nil => cases h
            | cons st l =>
              rw [chkO] at h
              split at h
              · rename_i t e hv
                split at h
                · rename_i y hy
                  simp only [Bool.and_eq_true] at h
                  obtain ⟨⟨⟨⟨h1, h2⟩, h3⟩, h4⟩, h5⟩ := h
                  have q := sndO hX hw tk hp r true b l (OkK.r hu) h5
                  unfold vName at hy
                  split at hy
                  · cases hy
                    unfold vAsg at hv
                    split at hv
                    · cases hv
                      exact dss_first hX.nd (at_N hX h2) (is_Lc hX h3) h4 (sndE p hX hw tk (OkK.std (OkK.l hu)) h1) q
                    · cases hv
                  · cases hy
                · cases h
              · cases h
        | _ => simp [chkO] at h
      | _ => simp [chkO] at h
  | .forC pl r, m, b, l, hu, h => by
    cases b with
    | seq a rest =>
      cases a with
      | forr it tg body =>
        cases it with
        | seq e =>
          cases tg with
          | tp _ => cases m <;> simp [chkO] at h
          | nm j =>
            cases l with
            | nil => cases m <;> cases h
            | cons st l =>
              rw [chkO_forC] at h
              split at h
              · rename_i te ie bl hv
                split at h
                · rename_i y z z' hy hz hz'
                  simp only [Bool.and_eq_true, decide_eq_true_eq] at h
                  obtain ⟨⟨⟨⟨⟨⟨h1, h2⟩, h3⟩, h4⟩, h5⟩, h6⟩, h7⟩ := h
                  subst h1
                  have q := sndO hX hw tk hp r m rest l (OkK.r hu) h7
                  have qb := sndKS hX hw tk hp pl j body bl (OkK.l hu) h5 h6
                  obtain ⟨l1, l2⟩ := hX.loc h4
                  have he : e = .cst (.str z') := by
                    unfold cTxt at hz
                    split at hz
                    · cases hz; rfl
                    · cases hz
                  subst he
                  unfold vName at hy
                  split at hy
                  · cases hy
                    unfold vStr at hz'
                    split at hz'
                    · cases hz'
                      unfold vFor at hv
                      split at hv
                      · cases hv
                        cases m with
                        | true => exact dss1_cons (m1 := fun ρ => ex (.forr (.seq (.cst (.str z'))) (.nm j) body) ρ) (ds1_of (ds_forC hp hX.calm hX.nd (at_N hX h3) l1 l2 h2 qb)) q
                        | false => exact dss_cons (m1 := fun ρ => ex (.forr (.seq (.cst (.str z'))) (.nm j) body) ρ) (ds_forC hp hX.calm hX.nd (at_N hX h3) l1 l2 h2 qb) q
                      · cases hv
                    · cases hz'
                  · cases hy
                · cases h
              · cases h
        | _ => cases m <;> simp [chkO] at h
      | _ => cases m <;> simp [chkO] at h
    | _ => cases m <;> simp [chkO] at h
  | .forV pl r, m, b, l, hu, h => by
    cases m with
    | false => cases b <;> simp [chkO] at h
    | true =>
      cases b with
      | seq a rest =>
        cases a with
        | forr it tg body =>
          cases it with
          | seq e =>
            cases tg with
            | tp _ => simp [chkO] at h
            | nm j =>
              cases l with
              | nil => cases h
              | cons st l =>
                rw [chkO] at h
                split at h
                · rename_i te ie bl hv
                  split at h
                  · rename_i y n x hy hn hx
                    simp only [Bool.and_eq_true] at h
                    obtain ⟨⟨⟨⟨⟨h1, h2⟩, h3⟩, h4⟩, h5⟩, h6⟩ := h
                    have q := sndO hX hw tk hp r true rest l (OkK.r hu) h6
                    have qb := sndKS hX hw tk hp pl j body bl (OkK.l hu) h4 h5
                    obtain ⟨l1, l2⟩ := hX.loc h3
                    obtain ⟨n1, n2, n3, n4⟩ := name_at hX h1
                    unfold vName at hy
                    split at hy
                    · cases hy
                      unfold vName at hx
                      split at hx
                      · cases hx
                        unfold vFor at hv
                        split at hv
                        · cases hv
                          exact dss1_cons ((ds1_for hp hX.calm hX.nd (at_N hX h2) l1 l2 (de_var n1 n2 n3 n4) qb (not_set rfl _)).imp fun Hs0 H0 Hst ρ D hh => loop_txt hn hh) q
                        · cases hv
                      · cases hx
                    · cases hy
                  · cases h
                · cases h
          | _ => simp [chkO] at h
        | _ => simp [chkO] at h
      | _ => simp [chkO] at h
  | .cmp r, m, b, l, hu, h => by
    cases b with
    | seq a rest =>
      cases a with
      | asg tg p =>
        cases p with
        | bi bb a cp =>
          cases bb with
          | add =>
            cases cp with
            | comp it tg2 elt own =>
              cases it with
              | seq e =>
                cases tg2 with
                | tp _ => cases m <;> simp [chkO] at h
                | nm j =>
                  cases l with
                  | nil => cases m <;> cases h
                  | cons st l =>
                    rw [chkO_cmp] at h
                    split at h
                    · rename_i t x v hv
                      split at h
                      · rename_i y z z' hy hz hz'
                        simp only [Bool.and_eq_true, decide_eq_true_eq] at h
                        obtain ⟨⟨⟨⟨⟨⟨⟨⟨⟨⟨⟨⟨h1, h2⟩, h3⟩, h4⟩, h5⟩, h6⟩, h7⟩, h8⟩, h9⟩, h10⟩, h11⟩, h12⟩, h13⟩ := h
                        subst h1
                        have q := sndO hX hw tk hp r m rest l (OkK.r (OkK.r hu)) h13
                        have he : e = .cst (.str z') := by
                          unfold cTxt at hz
                          split at hz
                          · cases hz; rfl
                          · cases hz
                        subst he
                        have hb := blkOk_by h7
                        have hb' : BlkOk X.N X.env.scope v.scope own := by rw [hX.N, hX.sc]; exact hb
                        have hyl : (relS v.scope X.env.scope).names.lookup y = some .local := by
                          rw [hX.sc]
                          unfold isLc at h4
                          split at h4
                          · assumption
                          · cases h4
                        have qe := fun (s : Shared) (H : Hp) (C : Addr) (cl : List (Str × Addr)) (fp : List Addr) => sndK (TN := TN) (k := k) elt (hX.blk hb.kind s H C cl fp) (hw.blk s H C cl fp) (takes_no (X := X.blk s H v.scope (compEnvC v.scope cl C X.env) fp)) (fun u hu' => UseK.blk (OkK.l (OkK.r hu) u hu') s H C cl fp) h9
                        have qa := sndE a hX hw tk (OkK.std (OkK.l hu)) h8
                        unfold vCmpS at hv
                        split at hv
                        · rename_i st0 t0 x0 y0 p0 p1
                          cases hc : vComp y0 with
                          | none => rw [hc] at hv; cases hv
                          | some v0 =>
                            rw [hc] at hv
                            cases hv
                            unfold vComp at hc
                            split at hc
                            · cases hc
                              have h6 := List.isEmpty_iff.mp h6
                              dsimp only at h6 hy hz' qe hb' hyl h4
                              subst h6
                              unfold vName at hy
                              split at hy
                              · cases hy
                                unfold vStr at hz'
                                split at hz'
                                · cases hz'
                                  cases m with
                                  | true => exact dss1_cons (ds1_of ((ds_asg (pos := p1) (de_bin (pos := p0) (op_binD (op := .Add) (b := .add) rfl) (bi2_noexc .add) qa (de_lcT (W := W) hX.calm hX.nd (at_N hX h3) hb' hyl h2 h5 qe)) (dg_of hX tg t h10) h11 (swap_no hX rfl) (by cases t <;> first | rfl | cases h12)).congr  (m' := fun ρ => ex (.asg tg (.bi .add a (.comp (.seq (.cst (.str z'))) (.nm j) elt own))) ρ) fun ρ => congrArg (fun r => R.bind r fun d => (asgT tg d ρ).bind fun ρ' => R.ok (Out.nx ρ')) (rcvT (b := .add) fun d => rfl))) q
                                  | false => exact dss_cons ((ds_asg (pos := p1) (de_bin (pos := p0) (op_binD (op := .Add) (b := .add) rfl) (bi2_noexc .add) qa (de_lcT (W := W) hX.calm hX.nd (at_N hX h3) hb' hyl h2 h5 qe)) (dg_of hX tg t h10) h11 (swap_no hX rfl) (by cases t <;> first | rfl | cases h12)).congr  (m' := fun ρ => ex (.asg tg (.bi .add a (.comp (.seq (.cst (.str z'))) (.nm j) elt own))) ρ) fun ρ => congrArg (fun r => R.bind r fun d => (asgT tg d ρ).bind fun ρ' => R.ok (Out.nx ρ')) (rcvT (b := .add) fun d => rfl)) q
                                · cases hz'
                              · cases hy
                            · cases hc
                        · cases hv
                      · cases h
                    · cases h
              | _ => cases m <;> simp [chkO] at h
            | _ => cases m <;> simp [chkO] at h
          | _ => cases m <;> simp [chkO] at h
        | _ => cases m <;> simp [chkO] at h
      | _ => cases m <;> simp [chkO] at h
    | _ => cases m <;> simp [chkO] at h
end
end QB
/-! ### tokens: defs -/
namespace QB
open PySem L2
section
variable {P : Program} {w : World} {K : PySem.W.Frag} {mg : Str → Option Value} {base h : Heap} {k : Nat}
def AllK (P : Program) (w : World) (K : PySem.W.Frag) (mg : Str → Option Value) (base : Heap) (k : Nat) : List UseK → Prop
  | [] => True
  | .std (.call x m) :: l => Cal P w K mg base k x m ∧ AllK P w K mg base k l
  | .std (.glb x d) :: l => GlbG mg x d ∧ AllK P w K mg base k l
  | .std (.rai x) :: l => RaiG K mg x ∧ AllK P w K mg base k l
  | .tok x m :: l => CalT P w K mg base k x m ∧ AllK P w K mg base k l
theorem AllK.ok {X : Cx} (h0 : X.prog = P) (h1 : X.w = w) (h2 : X.K = K) (h3 : X.mg = mg) (h4 : X.base = base) : ∀ (l : List UseK), AllK P w K mg base k l → OkK X k l
  | [], _ => fun u hu => nomatch hu
  | u :: l, h => fun u' hu' => by
    have ih := fun h' : AllK P w K mg base k l => AllK.ok h0 h1 h2 h3 h4 l h'
    subst h0 h1 h2 h3 h4
    rcases List.mem_cons.mp hu' with e | e
    · subst e
      cases u' with
      | tok x m => exact h.1
      | std u =>
        cases u with
        | call x m => exact h.1
        | glb x d => exact h.1
        | rai x =>
          obtain ⟨C, q1, q2, q3, q4, q5⟩ := h.1
          exact ⟨C, q1, q2, q3, raises_own q4 q5⟩
    · have h' : AllK X.prog X.w X.K X.mg X.base k l := by
        cases u with
        | tok x m => exact h.2
        | std u => cases u <;> exact h.2
      exact ih h' u' e
theorem allK_nil : AllK P w K mg base k [] := trivial
theorem allK_call {x : Str} {m : List PyData → R PyData} {l : List UseK} {j : Nat} (c : Cal P w K mg base j x m) (hj : Nat.ble j k = true) (r : AllK P w K mg base k l) : AllK P w K mg base k (.std (.call x m) :: l) := ⟨c.mono (Nat.le_of_ble_eq_true hj), r⟩
theorem allK_glb {x : Str} {d : PyData} {l : List UseK} (c : GlbG mg x d) (r : AllK P w K mg base k l) : AllK P w K mg base k (.std (.glb x d) :: l) := ⟨c, r⟩
theorem allK_rai {x : Str} {l : List UseK} (c : RaiG K mg x) (r : AllK P w K mg base k l) : AllK P w K mg base k (.std (.rai x) :: l) := ⟨c, r⟩
theorem allK_tok {x : Str} {m : List PyData → R PyData} {l : List UseK} {j : Nat} (c : CalT P w K mg base j x m) (hj : Nat.ble j k = true) (r : AllK P w K mg base k l) : AllK P w K mg base k (.tok x m :: l) := ⟨c.mono (Nat.le_of_ble_eq_true hj), r⟩
theorem run_post {ps N : List Str} {b : S} {vs : List V} {Hs H : Hp} {ds : List PyData} {Q : VK} {E : XK} (hl : ds.length = ps.length)
    (h : PostG (fun c H' => ∀ C, mg c = some (.ref C) → E (.ref C) none H') Hs H (match ex b (ds.map .da ++ List.replicate (N.length - ps.length) .no) with
      | .ok (.nx _) => .ok .none
      | .ok (.rt d) => .ok d
      | .exc c => .exc c
      | .stuck => .stuck) okD Q) : PostS mg (fun cls d _ H => E cls d H) Hs H Hs (ex b (ds.map .da ++ List.replicate (N.length - ds.length) .no)) { nx := fun _ H' => Q .non H', rt := Q } := by
  rw [hl]
  cases he : ex b (ds.map .da ++ List.replicate (N.length - ps.length) .no) with
  | stuck => rw [he] at h; exact h
  | exc c => rw [he] at h; exact fun σ' Hs' H' e1 C hC => h Hs' H' e1 C hC
  | ok o =>
    rw [he] at h
    cases o with
    | nx ρ' => exact fun σ' Hs' H' r1 _ => h .non Hs' H' r1.grow .non
    | rt d => exact fun v Hs' H' e1 o1 => h v Hs' H' e1 o1
theorem run_len {ps N : List Str} {b : S} {ds : List PyData} {Hs H : Hp} {vs : List V} {Q : VK} {E : Str → Hp → Prop} (h : PostG E Hs H (run ps.length N.length b ds) okD Q) : ds.length = ps.length ∧ PostG E Hs H (match ex b (ds.map .da ++ List.replicate (N.length - ps.length) .no) with
      | .ok (.nx _) => .ok .none
      | .ok (.rt d) => .ok d
      | .exc c => .exc c
      | .stuck => .stuck) okD Q := by
  unfold run at h
  cases hl : decide (ds.length = ps.length) with
  | false => rw [hl] at h; exact h.elim
  | true => rw [hl, R.when_true] at h; exact ⟨of_decide_eq_true hl, h⟩
theorem def_okO {TN : List Str} {pl : OPl} {x qual : Str} {st : Stmt} {f : Addr} {fd : FuncData} {N ps : List Str} {b : S} (F : Fun K x qual st f fd) (S : FnScope N ps (defScope st)) (hc : chkO TN ⟨N, defScope st, fun _ => true⟩ false pl b (defBody st) = true) (hb : ∀ x ∈ bltNames, mg x = none)
    (hu : AllK P w K mg base k (uO TN pl b)) : FnOk P w K mg base (L2.CX P w) (k + 1) f fd ps (SpD mg (run ps.length N.length b)) := by
  refine F.okX S (fun vs H Q E h => ?_) (fun cdv A outer s H vs Q E hr h => ?_)
  · obtain ⟨Hs, ds, hs, hd, h⟩ := h
    rw [dpaLen hd]; exact (run_len (vs := vs) h).1
  · obtain ⟨Hs, ds, hs, hd, h⟩ := h
    obtain ⟨hl, h⟩ := run_len (vs := vs) h
    let X := cxOf (L2.CX P w) P w K mg base N qual (defScope st) f cdv A outer s H E
    have hX : InC ⟨N, defScope st, fun _ => true⟩ X := ⟨rfl, rfl, rfl, S.nd, S.kind, rfl⟩
    have hw : Wd X k := ⟨hb, hr⟩
    have tk : Takes X (fun cls d _ H => E cls d H) := takes_of rfl rfl rfl rfl
    have hp : PassesOwn (model X.prog X.w) X.A X.env X.xe := passes_of rfl
    obtain ⟨t, p, q⟩ := sndO hX hw tk hp pl false b _ (AllK.ok (X := X) rfl rfl rfl rfl rfl _ hu) hc
    exact ⟨t, p, q Hs H Hs _ _ Hs H _ (rel_start hs hd) (Same.refl _) (run_post (vs := vs) hl h)⟩
theorem def_okT {TN : List Str} {pl : Pl} {x qual : Str} {st : Stmt} {f : Addr} {fd : FuncData} {N ps : List Str} {b : S} {y : Str} (F : Fun K x qual st f fd) (S : FnScope N ps (defScope st)) (hy : ps[1]? = some y) (hyl : (defScope st).names.lookup y = some .local)
    (hc : chkKS TN ⟨N, defScope st, fun _ => true⟩ pl 1 b (defBody st) = true) (hl0 : loopsOk pl b = true) (hb : ∀ x ∈ bltNames, mg x = none)
    (hu : AllK P w K mg base k (uKS TN pl b)) : FnOkT P w K mg base (L2.CX P w) (k + 1) f fd ps (SpS mg (run ps.length N.length b)) := by
  obtain ⟨oc, od, kV, doc, pm, an, cdv, ct, osl, rfl, lk, hcd⟩ := F.ex
  refine fn_ofT lk hcd S (fun vs H Q E h => ?_) hy hyl (fun vs H Q E h => h.1) (fun A outer s H vs Q E hr h => ?_)
  · obtain ⟨_, Hs, ds, hs, hd, h⟩ := h
    rw [dpaLen hd]; exact (run_len (vs := vs) h).1
  · obtain ⟨_, Hs, ds, hs, hd, h⟩ := h
    obtain ⟨hl, h⟩ := run_len (vs := vs) h
    let X := cxOf (L2.CX P w) P w K mg base N qual (defScope st) f cdv A outer s H E
    have hX : InC ⟨N, defScope st, fun _ => true⟩ X := ⟨rfl, rfl, rfl, S.nd, S.kind, rfl⟩
    have hw : Wd X k := ⟨hb, hr⟩
    have tk : Takes X (fun cls d _ H => E cls d H) := takes_of rfl rfl rfl rfl
    have hp : PassesOwn (model X.prog X.w) X.A X.env X.xe := passes_of rfl
    obtain ⟨t, p, q⟩ := sndKS hX hw tk hp pl 1 b _ (AllK.ok (X := X) rfl rfl rfl rfl rfl _ hu) hc hl0
    exact ⟨t, p, q Hs H Hs _ _ Hs H _ (rel_start hs hd) (Same.refl _) (run_post (vs := vs) hl h)⟩
theorem cal_fdO {TN : List Str} {pl : OPl} {x : Str} {st : Stmt} {N ps : List Str} {b : S} {n m : Nat} {L : List UseK} (D : FD K mg x st ps) (Sc : FnScope N ps (defScope st)) (hc : chkO TN ⟨N, defScope st, fun _ => true⟩ false pl b (defBody st) = true) (hn : ∀ x ∈ bltNames, mg x = none)
    (hu : AllK P w K mg base k L) (hL : uO TN pl b = L) (e1 : ps.length = n) (e2 : N.length = m) : Cal P w K mg base (k + 1) x (run n m b) := by
  obtain ⟨f, fd, F, g, B⟩ := D
  subst e1 e2 hL
  exact ⟨f, fd, ps, def_okO F Sc hc hn hu, g, F.kp, B⟩
theorem cal_fdT {TN : List Str} {pl : Pl} {x y : Str} {st : Stmt} {N ps : List Str} {b : S} {n m : Nat} {L : List UseK} (D : FD K mg x st ps) (Sc : FnScope N ps (defScope st)) (hy : ps[1]? = some y) (hyl : (defScope st).names.lookup y = some .local) (hc : chkKS TN ⟨N, defScope st, fun _ => true⟩ pl 1 b (defBody st) = true) (hl0 : loopsOk pl b = true) (hn : ∀ x ∈ bltNames, mg x = none)
    (hu : AllK P w K mg base k L) (hL : uKS TN pl b = L) (e1 : ps.length = n) (e2 : N.length = m) : CalT P w K mg base (k + 1) x (run n m b) := by
  obtain ⟨f, fd, F, g, B⟩ := D
  subst e1 e2 hL
  exact ⟨f, fd, ps, def_okT F Sc hy hyl hc hl0 hn hu, g, F.kp, B⟩
theorem law_fnO {TN : List Str} {pl : OPl} {st : Stmt} {fa : Addr} {N : List Str} {b : S} {m : Nat} (D : FL K mg st) (hmg : mg "law" = some (.ref fa)) (Sc : FnScope N ["script"] (defScope st)) (hc : chkO TN ⟨N, defScope st, fun _ => true⟩ false pl b (defBody st) = true) (hn : ∀ x ∈ bltNames, mg x = none)
    (hu : ∀ base, AllK P w K mg base k (uO TN pl b)) (e2 : N.length = m) : ∃ fd : FuncData, (∀ (s : Shared) (u : Value), BindsTo s fd ⟨[u], []⟩ [("script", u)]) ∧
      ∀ base : Heap, K.In base → base.Ns mainGlobals mg → FnOk P w K mg base (L2.CX P w) (k + 1) fa fd ["script"] (SpT (run 1 m b)) := by
  obtain ⟨f, fd, F, g, B⟩ := D
  rw [g] at hmg
  cases hmg
  subst e2
  exact ⟨fd, B, fun base _ _ => (def_okO F Sc hc hn (hu base)).imp fun vs H Q E q => spT q⟩
/-! #### a def whose last statements are never reached (nothing is told behind them) -/
def runP (n N : Nat) (b : S) (ds : List PyData) : R PyData := R.when (decide (ds.length = n)) (match ex b (ds.map .da ++ List.replicate (N - n) .no) with
  | .ok (.nx _) => .stuck
  | .ok (.rt d) => .ok d
  | .exc c => .exc c
  | .stuck => .stuck)
def chkPre (c : Cc) : S → List Stmt → Bool
  | .nil, _ => true
  | .seq a b, l => match l with
    | st :: l => chkS c a st && chkPre c b l
    | [] => false
  | _, _ => false
theorem sndPre {X : Cx} {W : WX} {c : Cc} (hX : InC c X) (hw : Wd X k) (tk : Takes X W) (hp : PassesOwn (model X.prog X.w) X.A X.env X.xe) : ∀ (b : S) (l : List Stmt), OkU X k (usesS b) → chkPre c b l = true → DSs X W l (fun ρ => (ex b ρ).next fun _ => .stuck)
  | .nil, l, _, _ => ⟨fun _ _ _ => False, ⟨fun _ _ _ _ _ _ z => z.elim⟩, fun Hs0 H0 Hst ρ σ Hs H D r sm h => h⟩
  | .seq a b, l, hu, h => by
    cases l with
    | nil => cases h
    | cons st l =>
      have h : (chkS c a st && chkPre c b l) = true := h
      rw [Bool.and_eq_true] at h
      have q := dss_cons (sndS a hX hw tk hp (OkU.l hu) h.1) (sndPre hX hw tk hp b l (OkU.r hu) h.2)
      have e : (fun ρ => (ex (.seq a b) ρ).next fun _ => .stuck) = fun ρ => (ex a ρ).next fun ρ' => (ex b ρ').next fun _ => .stuck := by
        funext ρ
        show ((ex a ρ).next fun ρ' => ex b ρ').next (fun _ => .stuck) = _
        cases ex a ρ with
        | ok o => cases o <;> rfl
        | exc _ => rfl
        | stuck => rfl
      rw [e]; exact q
  | .pass, l, _, h => by simp [chkPre] at h
  | .own _ _, l, _, h => by simp [chkPre] at h
  | .ownA _ _ _, l, _, h => by simp [chkPre] at h
  | .ownC _ _, l, _, h => by simp [chkPre] at h
  | .asg _ _, l, _, h => by simp [chkPre] at h
  | .par _ _, l, _, h => by simp [chkPre] at h
  | .app _ _, l, _, h => by simp [chkPre] at h
  | .ext _ _, l, _, h => by simp [chkPre] at h
  | .evl _, l, _, h => by simp [chkPre] at h
  | .iff _ _ _, l, _, h => by simp [chkPre] at h
  | .forr _ _ _, l, _, h => by simp [chkPre] at h
  | .whl _ _ _, l, _, h => by simp [chkPre] at h
  | .ret _, l, _, h => by simp [chkPre] at h
  | .rai _, l, _, h => by simp [chkPre] at h
  | .frz _, l, _, h => by simp [chkPre] at h
theorem def_okP {x qual : Str} {st : Stmt} {f : Addr} {fd : FuncData} {N ps : List Str} {b : S} (F : Fun K x qual st f fd) (S : FnScope N ps (defScope st)) (hc : chkPre ⟨N, defScope st, fun _ => true⟩ b (defBody st) = true) (hb : ∀ x ∈ bltNames, mg x = none)
    (hu : AllU P w K mg base k (usesS b)) : FnOk P w K mg base (L2.CX P w) (k + 1) f fd ps (SpD mg (runP ps.length N.length b)) := by
  refine F.okX S (fun vs H Q E h => ?_) (fun cdv A outer s H vs Q E hr h => ?_)
  · obtain ⟨Hs, ds, hs, hd, h⟩ := h
    unfold runP at h
    obtain ⟨hl, h⟩ := PostG.when h
    rw [dpaLen hd]; exact of_decide_eq_true hl
  · obtain ⟨Hs, ds, hs, hd, h⟩ := h
    unfold runP at h
    obtain ⟨hl, h⟩ := PostG.when h
    have hl := of_decide_eq_true hl
    let X := cxOf (L2.CX P w) P w K mg base N qual (defScope st) f cdv A outer s H E
    have hX : InC ⟨N, defScope st, fun _ => true⟩ X := ⟨rfl, rfl, rfl, S.nd, S.kind, rfl⟩
    have hw : Wd X k := ⟨hb, hr⟩
    have tk : Takes X (fun cls d _ H => E cls d H) := takes_of rfl rfl rfl rfl
    have hp : PassesOwn (model X.prog X.w) X.A X.env X.xe := passes_of rfl
    obtain ⟨t, p, q⟩ := sndPre hX hw tk hp b _ (AllU.ok (X := X) rfl rfl rfl rfl rfl _ hu) hc
    refine ⟨t, p, q Hs H Hs _ _ Hs H _ (rel_start hs hd) (Same.refl _) ?_⟩
    rw [hl]
    show PostS mg (fun cls d _ H => E cls d H) Hs H Hs ((ex b (ds.map .da ++ List.replicate (N.length - ps.length) .no)).next fun _ => .stuck) _
    cases he : ex b (ds.map .da ++ List.replicate (N.length - ps.length) .no) with
    | stuck => rw [he] at h; exact h
    | exc c => rw [he] at h; exact fun σ' Hs' H' e1 C hC => h Hs' H' e1 C hC
    | ok o =>
      rw [he] at h
      cases o with
      | nx ρ' => exact h.elim
      | rt d => exact fun v Hs' H' e1 o1 => h v Hs' H' e1 o1
theorem cal_fdP {x : Str} {st : Stmt} {N ps : List Str} {b : S} {n m : Nat} {L : List Use} (D : FD K mg x st ps) (Sc : FnScope N ps (defScope st)) (hc : chkPre ⟨N, defScope st, fun _ => true⟩ b (defBody st) = true) (hn : ∀ x ∈ bltNames, mg x = none)
    (hu : AllU P w K mg base k L) (hL : usesS b = L) (e1 : ps.length = n) (e2 : N.length = m) : Cal P w K mg base (k + 1) x (runP n m b) := by
  obtain ⟨f, fd, F, g, B⟩ := D
  subst e1 e2 hL
  exact ⟨f, fd, ps, def_okP F Sc hc hn hu, g, F.kp, B⟩
end
end QB
/-! ### the other way of drawing -/
namespace QL
open PySem QB
theorem fdiv_ok {a b : Int} (h1 : 0 < b) (h2 : b < 2 ^ 64) : bi2 .fdiv (.int a) (.int b) = .ok (.int (a / b)) := by rw [fdiv_int, decide_eq_true ⟨h1, h2⟩]; rfl
theorem mod_ok {a b : Int} (h1 : 0 < b) : bi2 .mod (.int a) (.int b) = .ok (.int (a % b)) := by rw [mod_int, decide_eq_true h1]; rfl
theorem mul_ok {a b : Int} (h : -(2 ^ 64) < a ∧ a < 2 ^ 64) : bi2 .mul (.int a) (.int b) = .ok (.int (a * b)) := by rw [mul_int, show i64 a = true from decide_eq_true h]; rfl
theorem mulr_ok {a b : Int} (h : -(2 ^ 64) < b ∧ b < 2 ^ 64) : bi2 .mul (.int a) (.int b) = .ok (.int (a * b)) := by rw [mul_int, show i64 b = true from decide_eq_true h, Bool.or_true]; rfl
theorem drawn_ex (ns : List Int) (hns : ns.length ≤ 63) (k m : Int) (hk : 0 ≤ k) (hk2 : k < 1000) (hm : 0 < m) : ∃ r, f__law_drawn [.list (ns.map .int), .int k, .int m] = .ok (.int r) ∧ 0 ≤ r ∧ r < m := by
  suffices h : Rets (f__law_drawn [.list (ns.map .int), .int k, .int m]) (fun d => ∃ r, d = .int r ∧ 0 ≤ r ∧ r < m) by
    obtain ⟨d, h1, r, rfl, h2⟩ := h
    exact ⟨r, h1, h2⟩
  refine rets_of rfl ?_
  refine wp_seq (wp_set (d := .int (7 * k)) (bi_ok rfl rfl rfl (mul_ok (by decide))) ?_)
  have en : bi2 .ne (.list (ns.map .int)) (.list []) = .ok (.bool (!decide (ns = []))) := ne_ints ns []
  refine wp_cut (fun ρ => ∃ (c : Int) (x4 x5 : Sl), ρ = [.da (.list (ns.map .int)), .da (.int k), .da (.int m), .da (.int c), x4, x5]) (wp_if (k := !decide (ns = [])) (bi_ok rfl rfl rfl en) (fun hne => ?_) (fun _ => wp_nil ⟨_, _, _, rfl⟩)) ?_
  · have hne : ns ≠ [] := by simpa using hne
    have hl : 0 < ns.length := List.length_pos_iff.mpr hne
    have h1 : 0 ≤ k % (ns.length : Int) := Int.emod_nonneg _ (by omega)
    have h2 : k % (ns.length : Int) < ns.length := Int.emod_lt_of_pos _ (by omega)
    have h3 : (k % (ns.length : Int)).toNat < ns.length := by omega
    obtain ⟨cell, hc⟩ : ∃ c, c = ns[(k % (ns.length : Int)).toNat] := ⟨_, rfl⟩
    have hat : L2.atI (ns.map PyData.int) (k % (ns.length : Int)) = some (.int cell) := by
      rw [atI_nat' (xs := ns.map PyData.int) h1 (by simpa using h2)]
      simp [h3, hc]
    have hdl : bi2 .fdiv (.int k) (.int ((ns.map PyData.int).length : Nat)) = .ok (.int (k / (ns.length : Nat))) := by
      rw [List.length_map]
      exact fdiv_ok (by omega) (by omega)
    have hml : bi2 .mod (.int k) (.int ((ns.map PyData.int).length : Nat)) = .ok (.int (k % (ns.length : Nat))) := by
      rw [List.length_map]
      exact mod_ok (by omega)
    have hq : 0 ≤ k / (ns.length : Int) := Int.ediv_nonneg hk (by omega)
    have hq2 : k / (ns.length : Int) ≤ k := Int.ediv_le_self _ hk
    obtain ⟨Q, hQ⟩ : ∃ Q, Q = k / (ns.length : Int) := ⟨_, rfl⟩
    rw [← hQ] at hdl hq hq2
    refine wp_seq (wp_set (d := .int cell) (bi_ok rfl (bi_ok rfl rfl rfl hml) rfl (by rw [idx_list, hat]; rfl)) ?_)
    refine wp_seq (wp_set (d := .int Q) (bi_ok rfl rfl rfl hdl) ?_)
    have ep : bi2 .pow (.int 10) (.int 18) = .ok (.int (10 ^ 18)) := by rfl
    refine wp_cut (fun ρ => ∃ (c : Int) (x4 x5 : Sl), ρ = [.da (.list (ns.map .int)), .da (.int k), .da (.int m), .da (.int c), x4, x5]) (wp_if (k := decide (10 ^ 18 ≤ cell) && decide (Q < 60)) (an_ok (bi_ok rfl (bi_ok rfl rfl rfl ep) rfl rfl) fun _ => rfl) (fun _ => ?_) (fun _ => wp_nil ⟨_, _, _, rfl⟩)) ?_
    · refine wp_seq (wp_set (d := .int (cell / 10 ^ 18)) (bi_ok rfl (bi_ok rfl rfl rfl ep) rfl (fdiv_ok (by decide) (by decide))) ?_)
      refine wp_seq (wp_whl (m := Q.toNat) (fun q ρ => ∃ r a : Int, ρ = [.da (.list (ns.map .int)), .da (.int k), .da (.int m), .da (.int cell), .da (.int a), .da (.int r)] ∧ 0 ≤ a ∧ a.toNat = q) (by omega) ⟨_, _, rfl, hq, rfl⟩ ?_)
      rintro q ρ ⟨r, a, rfl, ha, rfl⟩
      by_cases h1 : 0 < r
      · by_cases h2 : 0 < a
        · refine .inr ⟨by simp [h1, h2], ?_⟩
          refine wp_seq (wp_set (d := .int (r / 1000000)) (bi_ok rfl rfl rfl (fdiv_ok (by decide) (by decide))) ?_)
          exact wp_seq (wp_set (d := .int (a - 1)) rfl (wp_nil ⟨(a - 1).toNat, by omega, _, _, rfl, by omega, rfl⟩))
        · refine .inl ⟨by simp [h1, h2], wp_seq (wp_ifT (by simp [h1]) (wp_seq (wp_ret (d := .int (r % 1000000 % m)) ?_ ⟨_, rfl, Int.emod_nonneg _ (by omega), Int.emod_lt_of_pos _ hm⟩)))⟩
          exact bi_ok (bi_ok rfl rfl rfl (mod_ok (by decide))) rfl rfl (mod_ok hm)
      · exact .inl ⟨by simp [h1], wp_seq (wp_ifF (by simp [h1]) (wp_nil (wp_nil ⟨_, _, _, rfl⟩)))⟩
    · rintro ρ ⟨c, x4, x5, rfl⟩
      refine wp_seq (wp_set (d := .int (c + 6553 * Q)) (bi_ok rfl (bi_ok rfl (bi_ok rfl rfl rfl hdl) rfl (mul_ok (by decide))) rfl rfl) (wp_nil ⟨_, _, _, rfl⟩))
  · rintro ρ ⟨c, x4, x5, rfl⟩
    obtain ⟨D, hD⟩ : ∃ D : Int, D = (c % 2147483563 * 69069 + 104723 * (k + 1)) % 2147483563 := ⟨_, rfl⟩
    have hD1 : 0 ≤ D ∧ D < 2147483563 := by omega
    refine wp_seq (wp_set (d := .int D) ?_ ?_)
    · rw [hD]
      exact bi_ok (bi_ok (bi_ok (bi_ok rfl rfl rfl (mod_ok (by decide))) rfl rfl (mulr_ok (by decide))) (bi_ok rfl (bi_ok rfl rfl rfl rfl) rfl (mul_ok (by decide))) rfl rfl) rfl rfl (mod_ok (by decide))
    · obtain ⟨E, hE⟩ : ∃ E : Int, E = (D * D + D / 3) % 2147483399 := ⟨_, rfl⟩
      have hE1 : 0 ≤ E ∧ E < 2147483399 := by rw [hE]; exact ⟨Int.emod_nonneg _ (by decide), Int.emod_lt_of_pos _ (by decide)⟩
      refine wp_seq (wp_set (d := .int E) ?_ ?_)
      · rw [hE]
        exact bi_ok (bi_ok (bi_ok rfl rfl rfl (mul_ok (by omega))) (bi_ok rfl rfl rfl (fdiv_ok (by decide) (by decide))) rfl rfl) rfl rfl (mod_ok (by decide))
      · refine wp_seq (wp_ret (d := .int ((E * E + E / 7) % 2147483647 / 11 % m)) ?_ ⟨_, rfl, Int.emod_nonneg _ (by omega), Int.emod_lt_of_pos _ hm⟩)
        exact bi_ok (bi_ok (bi_ok (bi_ok (bi_ok rfl rfl rfl (mul_ok (by omega))) (bi_ok rfl rfl rfl (fdiv_ok (by decide) (by decide))) rfl rfl) rfl rfl (mod_ok (by decide))) rfl rfl (fdiv_ok (by decide) (by decide))) rfl rfl (mod_ok hm)
def dr (ns : List Int) (k m : Int) : Int := match f__law_drawn [.list (ns.map .int), .int k, .int m] with
  | .ok (.int r) => r
  | _ => 0
theorem dr_ok {ns : List Int} (hns : ns.length ≤ 63) {k m : Int} (hk : 0 ≤ k) (hk2 : k < 1000) (hm : 0 < m) : f__law_drawn [.list (ns.map .int), .int k, .int m] = .ok (.int (dr ns k m)) ∧ 0 ≤ dr ns k m ∧ dr ns k m < m := by
  obtain ⟨r, h1, h2⟩ := drawn_ex ns hns k m hk hk2 hm
  have : dr ns k m = r := by unfold dr; rw [h1]
  rw [this]
  exact ⟨h1, h2⟩
end QL
/-! ### _law_settings, _law_hours -/
namespace QL
open PySem QB
theorem near_gen {ρ : QB.Env} {ks : List Int} {v : Int} (hk : ks.length = 6) (h8 : ρ[8]? = some (.da (.list (ks.map .int)))) (hl : 3 < ρ.length) :
    ev (.bi .join (.cst (.str "")) (.compT (.rng1 (.cst (.int 6))) (.nm 3) (.bi .eq (.bi .idx (.var 8) (.var 3)) (.cst (.int v))) (.bi .idx (.cst (.str "abcdef")) (.var 3)) [("k", 3)])) ρ = .ok (.str (sg (((List.range 6).filter fun k => decide (ks.getD k 0 = v)).map (97 + ·)))) := by
  refine join_of (cs := (((List.range 6).filter fun k => decide (ks.getD k 0 = v)).map (97 + ·))) ?_ (by
    rw [List.length_map]
    exact Nat.le_trans (List.length_filter_le _ _) (by simp))
  rw [List.map_map]
  refine ev_compT_ok (enc := fun k => .int ((k : Nat) : Int)) (g := fun k => c1s (97 + k)) (by rw [evI_rng1]; exact rng_lit 6 (by decide)) (by simp) fun k hk' => ?_
  have hk6 := List.mem_range.mp hk'
  have e8 : ((ρ.set 3 .no).set 3 (.da (.int ((k : Nat) : Int))))[8]? = some (.da (.list (ks.map .int))) := by
    rw [List.getElem?_set_ne (by decide), List.getElem?_set_ne (by decide)]; exact h8
  have e3 : ((ρ.set 3 .no).set 3 (.da (.int ((k : Nat) : Int))))[3]? = some (.da (.int ((k : Nat) : Int))) := by
    rw [List.getElem?_set_self (by simpa using hl)]
  have ea : L2.atI (ks.map PyData.int) ((k : Nat) : Int) = some (.int (ks.getD k 0)) := by
    rw [atI_nat' (by omega) (by simp; omega)]
    simp [List.getD_eq_getElem?_getD]
    rw [List.getElem?_eq_getElem (by omega)]
    simp
  refine ⟨_, rfl, ?_, fun _ => ?_⟩
  · simp only [List.map_cons, List.map_nil, wipeS_cons, wipeS_nil, ev_bi, ev_var, ev_cst, e8, e3, get_da, R.bind_ok, rcv_idx, rcv_eq, R.when_true, idx_list, ea, R.of_some, eq_int]
  · simp only [List.map_cons, List.map_nil, wipeS_cons, wipeS_nil, ev_bi, ev_var, ev_cst, e3, get_da, R.bind_ok, rcv_idx, R.when_true, idx_call hk6]
theorem settings_ex {ns : List Int} (hns : ns.length ≤ 63) {at_ : Int} (h0 : 0 ≤ at_) (h1 : at_ ≤ 900) : ∃ s, f__law_settings [.list (ns.map .int), .int at_] = .ok (stD s) ∧ Good s := by
  suffices h : Rets (f__law_settings [.list (ns.map .int), .int at_]) (fun d => ∃ s, d = stD s ∧ Good s) by
    obtain ⟨d, h1, s, rfl, h2⟩ := h
    exact ⟨s, h1, h2⟩
  have pkk : ∀ k m : Int, 0 ≤ k → k < 1000 → 0 < m → f__law_drawn [.list (ns.map .int), .int k, .int m] = .ok (.int (dr ns k m)) := fun k m a b c => (dr_ok hns a b c).1
  have pkb : ∀ k m : Int, 0 ≤ k → k < 1000 → 0 < m → 0 ≤ dr ns k m ∧ dr ns k m < m := fun k m a b c => (dr_ok hns a b c).2
  have b4 := pkb at_ 4 h0 (by omega) (by decide)
  have b41 := pkb (at_ + 1) 2 (by omega) (by omega) (by decide)
  obtain ⟨Z, hZ⟩ : ∃ Z, Z = dr ns at_ 4 + dr ns (at_ + 1) 2 := ⟨_, rfl⟩
  refine rets_of rfl (wp_seq (wp_own (ds := []) rfl (wp_seq ?_)))
  refine wp_for (fun i ρ => ∃ (ts : List Tm) (x3 x4 x5 x6 x7 : Sl), ρ = [.da (.list (ns.map .int)), .da (.int at_), .ow (ts.map tmD), x3, x4, x5, x6, x7, .no, .no, .no, .no] ∧ (∀ t ∈ ts, GoodT t) ∧ ts.length = i)
    (ds := (List.range Z.toNat).map fun k => .int ((k : Nat) : Int)) ?_ ⟨[], .no, .no, .no, .no, .no, rfl, (fun t q => nomatch q), rfl⟩ ?_ ?_
  · rw [evI_rng1, bi_ok (fn3_ok rfl rfl rfl (pkk at_ 4 h0 (by omega) (by decide))) (fn3_ok rfl (bi_ok rfl rfl rfl rfl) rfl (pkk (at_ + 1) 2 (by omega) (by omega) (by decide))) rfl rfl]
    show rngI 0 (dr ns at_ 4 + dr ns (at_ + 1) 2) = _
    rw [← hZ]
    have := rng_lit Z.toNat (by omega)
    rwa [show ((Z.toNat : Nat) : Int) = Z by omega] at this
  · rintro i d ρ hd ⟨ts, x3, x4, x5, x6, x7, rfl, hg, hlen⟩
    obtain ⟨k, hk, rfl⟩ : ∃ k : Nat, k < 5 ∧ d = .int (k : Int) := by
      obtain ⟨k, hk, rfl⟩ := List.mem_map.mp (List.mem_of_getElem? hd)
      exact ⟨k, by have := List.mem_range.mp hk; omega, rfl⟩
    have hi : i < 5 := by
      have := (List.getElem?_eq_some_iff.mp hd).1
      simp at this; omega
    have i10 : i64 10 = true := by decide
    refine ⟨[.da (.list (ns.map .int)), .da (.int at_), .ow (ts.map tmD), .da (.int (k : Nat)), x4, x5, x6, x7, .no, .no, .no, .no], rfl, ?_⟩
    let q : Nat → Bool := fun c => decide (0 < dr ns (at_ + 2 + 10 * (k : Int) + (c : Int)) 3)
    have hrow := row_filter (lo := 48) (n := 7) q
    obtain ⟨dl, hdl⟩ : ∃ dl, dl = ((List.range 7).filter q).map (48 + ·) := ⟨_, rfl⟩
    rw [← hdl] at hrow
    refine wp_seq (wp_set (d := .str (sg dl)) ?_ ?_)
    · refine join_of ?_ (by
        rw [hdl, List.length_map]
        exact Nat.le_trans (List.length_filter_le _ _) (by simp))
      rw [hdl, List.map_map]
      refine ev_compT_ok (xs := List.range 7) (enc := fun c => c1s (48 + c)) (g := fun c => c1s (48 + c)) (q := q) (by rw [evI_seq, ev_cst, R.bind_ok, days_is, seqOf_str, sg_cps, ← range_days, List.map_map]; rfl) (by simp) fun c hc => ⟨_, rfl, ?_, fun _ => by simp⟩
      have hc7 := List.mem_range.mp hc
      have et := toInt_day (c := 48 + c) (by omega) (by omega)
      simp [et, i10]
      rw [show ((48 : Int) + (c : Int) - 48) = (c : Int) by omega, pkk (at_ + 2 + 10 * (k : Int) + (c : Int)) 3 (by omega) (by omega) (by decide)]
      simp [q]
    let dl' : List Nat := if dl = [] then [51] else dl
    have p8 := pkb (at_ + 9 + 10 * (k : Int)) 24 (by omega) (by omega) (by decide)
    have p9 := pkb (at_ + 10 + 10 * (k : Int)) 24 (by omega) (by omega) (by decide)
    have e8 := pkk (at_ + 9 + 10 * (k : Int)) 24 (by omega) (by omega) (by decide)
    have e9 := pkk (at_ + 10 + 10 * (k : Int)) 24 (by omega) (by omega) (by decide)
    refine wp_seq (wp_set (d := .str (sg dl')) ?_ ?_)
    · by_cases hd : dl = []
      · simp [dl', hd, empty_is, three_is]
      · have : sg dl ≠ sg [] := fun z => hd (sg_inj z)
        simp [dl', hd, empty_is, this]
    refine wp_seq (wp_par (sls := [.da (.int (dr ns (at_ + 9 + 10 * (k : Int)) 24)), .da (.int (dr ns (at_ + 10 + 10 * (k : Int)) 24))]) (by simp [i10, e8, e9]) rfl ?_)
    have hg' : GoodT ⟨dl', dr ns (at_ + 9 + 10 * (k : Int)) 24, dr ns (at_ + 10 + 10 * (k : Int)) 24⟩ := by
      refine ⟨?_, ?_, p8.1, p8.2, p9.1, p9.2⟩
      · show (if dl = [] then [51] else dl) ≠ []
        split
        · decide
        · assumption
      · show Row 48 54 (if dl = [] then [51] else dl)
        split
        · exact ⟨by simp, by simp⟩
        · exact hrow
    refine wp_seq (wp_app (ds := ts.map tmD) (d := tmD ⟨dl', dr ns (at_ + 9 + 10 * (k : Int)) 24, dr ns (at_ + 10 + 10 * (k : Int)) 24⟩) rfl rfl (by rw [List.length_map]; omega) (wp_nil ⟨ts ++ [⟨dl', dr ns (at_ + 9 + 10 * (k : Int)) 24, dr ns (at_ + 10 + 10 * (k : Int)) 24⟩], .da (.int (k : Nat)), .da (.str (sg dl')), x5, .da (.int (dr ns (at_ + 9 + 10 * (k : Int)) 24)), .da (.int (dr ns (at_ + 10 + 10 * (k : Int)) 24)), by simp, ?_, by simp [hlen]⟩))
    intro t ht
    rcases List.mem_append.mp ht with q | q
    · exact hg t q
    · rw [List.mem_singleton.mp q]; exact hg'
  · rintro ρ ⟨ts, x3, x4, x5, x6, x7, rfl, hg, hlen⟩
    have hl4 : ts.length ≤ 4 := by rw [hlen, List.length_map, List.length_range]; omega
    obtain ⟨us, u1, u2, u3, u4⟩ := sset_tms (ts := ts) hl4
    let ks : List Int := (List.range 6).map fun k => dr ns (at_ + 45 + (k : Nat)) 4
    have p41 := pkb (at_ + 51) 4 (by omega) (by omega) (by decide)
    have e41 := pkk (at_ + 51) 4 (by omega) (by omega) (by decide)
    have p52 := pkb (at_ + 52) 60 (by omega) (by omega) (by decide)
    have e52 := pkk (at_ + 52) 60 (by omega) (by omega) (by decide)
    obtain ⟨g, hg1, hg2, hg3⟩ : ∃ g : Int, L2.atI [PyData.int 0, .int 15, .int 59, .int (dr ns (at_ + 52) 60)] (dr ns (at_ + 51) 4) = some (.int g) ∧ 0 ≤ g ∧ g ≤ 59 := by
      have : dr ns (at_ + 51) 4 = 0 ∨ dr ns (at_ + 51) 4 = 1 ∨ dr ns (at_ + 51) 4 = 2 ∨ dr ns (at_ + 51) 4 = 3 := by omega
      rcases this with z | z | z | z <;> rw [z]
      · exact ⟨0, rfl, by decide, by decide⟩
      · exact ⟨15, rfl, by decide, by decide⟩
      · exact ⟨59, rfl, by decide, by decide⟩
      · exact ⟨_, rfl, p52.1, by omega⟩
    refine wp_seq (wp_set (d := .list (ks.map .int)) ?_ ?_)
    · have : ks.map PyData.int = (List.range 6).map fun k => .int (dr ns (at_ + 45 + (k : Nat)) 4) := by simp [ks]
      rw [this]
      refine ev_comp_ok (enc := fun k => .int ((k : Nat) : Int)) (by rw [evI_rng1]; exact rng_lit 6 (by decide)) (by simp) fun k hk => ⟨_, rfl, ?_⟩
      have := List.mem_range.mp hk
      exact fn3_ok rfl (bi_ok (bi_ok rfl rfl rfl rfl) rfl rfl rfl) rfl (pkk (at_ + 45 + (k : Nat)) 4 (by omega) (by omega) (by decide))
    refine wp_seq (wp_set (near_gen (ks := ks) (v := 0) (by simp [ks]) rfl (by simp)) ?_)
    refine wp_seq (wp_set (near_gen (ks := ks) (v := 1) (by simp [ks]) rfl (by simp)) ?_)
    refine wp_seq (wp_set (d := .int g) ?_ ?_)
    · simp [e41, e52, hg1]
    refine wp_seq (wp_frz (wp_seq (wp_ret (d := stD ⟨us, ((List.range 6).filter fun k => decide (ks.getD k 0 = 0)).map (97 + ·), ((List.range 6).filter fun k => decide (ks.getD k 0 = 1)).map (97 + ·), g⟩) ?_ ⟨_, rfl, ?_⟩)))
    · simp [frzS, stD, u1]
    · refine ⟨by show us.length ≤ 4; omega, fun t ht => hg t ((u2 t).mp ht), u3, row_filter (lo := 97) (n := 6) _, row_filter (lo := 97) (n := 6) _, fun c hc hc' => ?_, hg2, hg3⟩
      obtain ⟨a, ha, rfl⟩ := List.mem_map.mp hc
      obtain ⟨b, hb, e⟩ := List.mem_map.mp hc'
      have : b = a := by omega
      subst this
      have h1 := of_decide_eq_true (List.mem_filter.mp ha).2
      have h2 := of_decide_eq_true (List.mem_filter.mp hb).2
      omega
end QL
/-! ### _law_hours, _law_calls -/
namespace QL
open PySem QB
theorem law_hours_gen {q : List Tm} {rest : List PyData} (h : ∀ t ∈ q, GoodT t) (hq : q.length ≤ 5) : f__law_hours [.tuple (.tuple (q.map tmD) :: rest)] = .ok (.list ((hrs q).map .int)) := by
  obtain ⟨st, hst⟩ : ∃ st, st = PyData.tuple (.tuple (q.map tmD) :: rest) := ⟨_, rfl⟩
  have hat : bi2 .idx st (.int 0) = .ok (.tuple (q.map tmD)) := by
    rw [hst, idx_tuple, atI_nat' (by decide) (by simp)]; rfl
  rw [← hst]
  refine Rets.ok (rets_of rfl (wp_seq (wp_own (ds := []) rfl (wp_seq (wp_for (fun i ρ => ∃ x2 x3 x4 x5 x6, ρ = [.da st, .ow (((q.take i).flatMap hoursT).map .int), x2, x3, x4, x5, x6]) (ds := q.map tmD) (seq_ok (bi_ok rfl rfl rfl hat) rfl) ⟨.no, .no, .no, .no, .no, rfl⟩ ?_ ?_)))))
  · rintro i d ρ hd ⟨x2, x3, x4, x5, x6, rfl⟩
    rw [List.getElem?_map] at hd
    cases hc : q[i]? with
    | none => rw [hc] at hd; cases hd
    | some t =>
      rw [hc] at hd
      cases hd
      have ht := h t (List.mem_of_getElem? hc)
      have hb0 := ht.b0; have hb1 := ht.b1; have he0 := ht.e0; have he1 := ht.e1; have hm := many_pos t
      have h1 := flat_hours_len (q := q.take i) (fun t ht => h t (List.mem_of_mem_take ht)) (by rw [List.length_take]; omega)
      generalize hpre : (q.take i).flatMap hoursT = pre at h1
      refine ⟨[.da st, .ow (pre.map .int), .da (.str (sg t.l)), .da (.int t.b), .da (.int t.e), x5, x6], rfl, wp_seq (wp_for (fun j ρ => ∃ y5 y6, ρ = [.da st, .ow ((pre ++ (t.l.take j).flatMap (hoursD t)).map .int), .da (.str (sg t.l)), .da (.int t.b), .da (.int t.e), y5, y6]) (ds := t.l.map c1s) (by simp) ⟨x5, x6, by simp⟩ ?_ ?_)⟩
      · rintro j d ρ hd ⟨y5, y6, rfl⟩
        rw [List.getElem?_map] at hd
        cases hcc : t.l[j]? with
        | none => rw [hcc] at hd; cases hd
        | some c =>
          rw [hcc] at hd
          cases hd
          have hr := ht.row.2 c (List.mem_of_getElem? hcc)
          have h2 : ((t.l.take j).flatMap (hoursD t)).length ≤ 168 := by
            have := flat_len (f := hoursD t) (t.l.take j) fun c hc => hoursD_len t c
            have := row_len ht.row
            have : (t.l.take j).length ≤ t.l.length := by rw [List.length_take]; omega
            omega
          generalize hp2 : (t.l.take j).flatMap (hoursD t) = p2 at h2
          have i24 : i64 24 = true := by decide
          obtain ⟨F, hF⟩ : ∃ F : Int, F = 24 * ((c : Int) - 48) + t.b := ⟨_, rfl⟩
          refine ⟨[.da st, .ow ((pre ++ p2).map .int), .da (.str (sg t.l)), .da (.int t.b), .da (.int t.e), .da (c1s c), y6], rfl, wp_seq (wp_set (d := .int F) (by simp [toInt_day hr.1 hr.2, i24, hF]) (wp_seq ?_))⟩
          refine wp_whl (m := (manyOf t).toNat) (fun m ρ => ∃ k : Nat, k ≤ (manyOf t).toNat ∧ m = (manyOf t).toNat - k ∧ ρ = [.da st, .ow ((pre ++ p2 ++ (List.range k).map fun k => (F + (k : Nat)) % 168).map .int), .da (.str (sg t.l)), .da (.int t.b), .da (.int t.e), .da (c1s c), .da (.int (F + (k : Nat)))]) (by omega) ⟨0, by omega, by omega, by simp⟩ ?_
          rintro m ρ ⟨k, hk2, rfl, rfl⟩
          have ec : ∀ l : List Int, ev (.oo (.bi .eq (.var 6) (.bi .add (.bi .mul (.cst (.int 24)) (.un .toInt (.var 5))) (.var 3))) (.bi .ne (.bi .mod (.var 6) (.cst (.int 24))) (.var 4))) [.da st, .ow (l.map .int), .da (.str (sg t.l)), .da (.int t.b), .da (.int t.e), .da (c1s c), .da (.int (F + (k : Nat)))] = .ok (.bool (decide (F + (k : Nat) = F) || !decide ((F + (k : Int)) % 24 = t.e))) := fun l =>
            oo_ok (by simp [toInt_day hr.1 hr.2, i24, hF]) fun _ => by simp
          by_cases hk : k = (manyOf t).toNat
          · refine .inl ⟨?_, wp_nil ⟨.da (c1s c), .da (.int (F + (k : Nat))), ?_⟩⟩
            · rw [ec]
              have h1 : (F + (k : Int)) % 24 = t.e := by unfold manyOf at hk; omega
              have h2 : ¬ (F + (k : Int) = F) := by omega
              rw [decide_eq_true h1, decide_eq_false h2]; rfl
            · rw [List.take_add_one, hcc, List.flatMap_append, hp2]
              have : (List.range k).map (fun k => (F + ((k : Nat) : Int)) % 168) = hoursD t c := by
                unfold hoursD
                rw [← hk]
                congr 1
                funext q
                congr 1
                omega
              rw [this]
              simp
          · refine .inr ⟨?_, wp_seq (wp_app (ds := (pre ++ p2 ++ (List.range k).map fun k => (F + (k : Nat)) % 168).map .int) (d := .int ((F + (k : Nat)) % 168)) rfl (by simp) (by simp; omega) (wp_seq (wp_set (d := .int (F + (k : Nat) + 1)) (by simp) (wp_nil ⟨(manyOf t).toNat - (k + 1), by omega, k + 1, by omega, rfl, ?_⟩))))⟩
            · rw [ec]
              by_cases hk0 : k = 0
              · have : F + (k : Int) = F := by omega
                rw [decide_eq_true this]; rfl
              · have : ¬ (F + (k : Int)) % 24 = t.e := by unfold manyOf at hk hk2; omega
                rw [decide_eq_false this, Bool.not_false, Bool.or_true]
            · simp [List.range_succ]
              omega
      · rintro ρ ⟨y5, y6, rfl⟩
        refine wp_nil ⟨.da (.str (sg t.l)), .da (.int t.b), .da (.int t.e), y5, y6, ?_⟩
        rw [List.length_map, List.take_length, ← hpre, List.take_add_one, hc]
        simp [hoursT]
  · rintro ρ ⟨x2, x3, x4, x5, x6, rfl⟩
    rw [List.length_map, List.take_length]
    have h1 := flat_hours_len h hq
    exact wp_seq (wp_frz (wp_seq (wp_ret (d := .list ((hrs q).map .int)) (un_ok rfl (sset_ints (by omega))) rfl)))
theorem law_hours_ok {s : Stg} (h : Good s) : f__law_hours [stD s] = .ok (.list ((hrs s.q).map .int)) := law_hours_gen h.t (by have := h.few; omega)
theorem calls_ex {ns : List Int} (hns : ns.length ≤ 63) {at_ most : Int} (h0 : 0 ≤ at_) (h1 : at_ ≤ 900) (hm0 : 0 ≤ most) (hm1 : most ≤ 12) {s : Stg} (hs : Good s) : ∃ cs, f__law_calls [.list (ns.map .int), .int at_, stD s, .int most] = .ok (.tuple (cs.map clD)) ∧ GoodC cs := by
  suffices h : Rets (f__law_calls [.list (ns.map .int), .int at_, stD s, .int most]) (fun d => ∃ cs, d = .tuple (cs.map clD) ∧ GoodC cs) by
    obtain ⟨d, h1, cs, rfl, h2⟩ := h
    exact ⟨cs, h1, h2⟩
  have pkk : ∀ k m : Int, 0 ≤ k → k < 1000 → 0 < m → f__law_drawn [.list (ns.map .int), .int k, .int m] = .ok (.int (dr ns k m)) := fun k m a b c => (dr_ok hns a b c).1
  have pkb : ∀ k m : Int, 0 ≤ k → k < 1000 → 0 < m → 0 ≤ dr ns k m ∧ dr ns k m < m := fun k m a b c => (dr_ok hns a b c).2
  obtain ⟨_, _, _, a3⟩ := st_at s
  have g0 := hs.a0
  have b0 := pkb at_ 160 h0 (by omega) (by omega)
  have e0 := pkk at_ 160 h0 (by omega) (by omega)
  have b1 := pkb (at_ + 1) 60 (by omega) (by omega) (by omega)
  have e1 := pkk (at_ + 1) 60 (by omega) (by omega) (by omega)
  have b2 := pkb (at_ + 2) (most + 1) (by omega) (by omega) (by omega)
  have e2 := pkk (at_ + 2) (most + 1) (by omega) (by omega) (by omega)
  have b3 := pkb (at_ + 3) 2 (by omega) (by omega) (by omega)
  have e3 := pkk (at_ + 3) 2 (by omega) (by omega) (by omega)
  have i60 : i64 60 = true := by decide
  have i3 : i64 3 = true := by decide
  obtain ⟨M, hM⟩ : ∃ M : Int, M = 60 * dr ns at_ 160 + dr ns (at_ + 1) 60 := ⟨_, rfl⟩
  refine rets_of rfl (wp_seq (wp_par (sls := [.ow [], .da (.int M)]) (by simp [e0, e1, i60, hM]) rfl (wp_seq ?_)))
  refine wp_for (fun i ρ => ∃ (cs : List Cl) (m : Int) (x6 x7 : Sl), ρ = [.da (.list (ns.map .int)), .da (.int at_), .da (stD s), .da (.int most), .ow (cs.map clD), .da (.int m), x6, x7, .no] ∧ cs.length = i ∧ 0 ≤ m ∧ (∀ k ∈ cs, 0 ≤ k.m ∧ k.m < m ∧ 97 ≤ k.c ∧ k.c ≤ 102) ∧ cs.Pairwise fun a b => a.m < b.m)
    (ds := (List.range (dr ns (at_ + 2) (most + 1)).toNat).map fun k => .int ((k : Nat) : Int)) ?_ ⟨[], M, .no, .no, rfl, rfl, by omega, (fun k q => nomatch q), List.Pairwise.nil⟩ ?_ ?_
  · rw [evI_rng1, fn3_ok rfl (bi_ok rfl rfl rfl rfl) (bi_ok rfl rfl rfl rfl) e2]
    show rngI 0 (dr ns (at_ + 2) (most + 1)) = _
    have := rng_lit (dr ns (at_ + 2) (most + 1)).toNat (by omega)
    rwa [show (((dr ns (at_ + 2) (most + 1)).toNat : Nat) : Int) = dr ns (at_ + 2) (most + 1) by omega] at this
  · rintro i d ρ hd ⟨cs, m, x6, x7, rfl, hci, hm0', hall, hup⟩
    obtain ⟨k, hk, rfl⟩ : ∃ k : Nat, k < 12 ∧ d = .int (k : Int) := by
      obtain ⟨k, hk, rfl⟩ := List.mem_map.mp (List.mem_of_getElem? hd)
      exact ⟨k, by have := List.mem_range.mp hk; omega, rfl⟩
    have hi : i < 13 := by
      have := (List.getElem?_eq_some_iff.mp hd).1
      simp at this; omega
    have b4 := pkb (at_ + 4 + 3 * (k : Int)) (3 + 3 * dr ns (at_ + 3) 2) (by omega) (by omega) (by omega)
    have e4 := pkk (at_ + 4 + 3 * (k : Int)) (3 + 3 * dr ns (at_ + 3) 2) (by omega) (by omega) (by omega)
    have b5 := pkb (at_ + 5 + 3 * (k : Int)) 700 (by omega) (by omega) (by omega)
    have e5 := pkk (at_ + 5 + 3 * (k : Int)) 700 (by omega) (by omega) (by omega)
    have b6 := pkb (at_ + 6 + 3 * (k : Int)) 6 (by omega) (by omega) (by omega)
    have e6 := pkk (at_ + 6 + 3 * (k : Int)) 6 (by omega) (by omega) (by omega)
    obtain ⟨c, hc⟩ : ∃ c, c = (dr ns (at_ + 4 + 3 * (k : Int)) (3 + 3 * dr ns (at_ + 3) 2)).toNat := ⟨_, rfl⟩
    have hcc := idx_call (k := c) (by omega)
    rw [show ((c : Nat) : Int) = dr ns (at_ + 4 + 3 * (k : Int)) (3 + 3 * dr ns (at_ + 3) 2) by omega] at hcc
    obtain ⟨g, hg, hg1⟩ : ∃ g : Int, L2.atI [PyData.int 1, .int s.again, .int (s.again + 1), .int 20, .int 60, .int (1 + dr ns (at_ + 5 + 3 * (k : Int)) 700)] (dr ns (at_ + 6 + 3 * (k : Int)) 6) = some (.int g) ∧ 0 ≤ g := by
      have : dr ns (at_ + 6 + 3 * (k : Int)) 6 = 0 ∨ dr ns (at_ + 6 + 3 * (k : Int)) 6 = 1 ∨ dr ns (at_ + 6 + 3 * (k : Int)) 6 = 2 ∨ dr ns (at_ + 6 + 3 * (k : Int)) 6 = 3 ∨ dr ns (at_ + 6 + 3 * (k : Int)) 6 = 4 ∨ dr ns (at_ + 6 + 3 * (k : Int)) 6 = 5 := by omega
      rcases this with z | z | z | z | z | z <;> rw [z] <;> exact ⟨_, rfl, by omega⟩
    obtain ⟨G, hG, hG1⟩ : ∃ G : Int, (if g > 1 then g else 1) = G ∧ 1 ≤ G := by
      refine ⟨_, rfl, ?_⟩
      split <;> omega
    refine ⟨[.da (.list (ns.map .int)), .da (.int at_), .da (stD s), .da (.int most), .ow (cs.map clD), .da (.int m), .da (.int (k : Int)), x7, .no], rfl, ?_⟩
    refine wp_seq (wp_app (ds := cs.map clD) (d := clD ⟨m, 97 + c⟩) rfl (by simp [i3, e3, e4, hcc, clD]) (by simp; omega) ?_)
    refine wp_seq (wp_set (d := .list [.int 1, .int s.again, .int (s.again + 1), .int 20, .int 60]) (by simp [stD, a3]) ?_)
    refine wp_seq (wp_set (d := .list [.int 1, .int s.again, .int (s.again + 1), .int 20, .int 60, .int (1 + dr ns (at_ + 5 + 3 * (k : Int)) 700)]) (bi_ok rfl (e := .list [.int (1 + dr ns (at_ + 5 + 3 * (k : Int)) 700)]) (by simp [i3, e5]) rfl rfl) ?_)
    refine wp_seq (wp_set (d := .int (m + G)) (bi_ok rfl (e := .int G) ?_ rfl rfl) (wp_nil ⟨cs ++ [⟨m, 97 + c⟩], m + G, _, _, (by rw [List.map_append]; rfl), by simp [hci], by omega, fun q hq => ?_, ?_⟩))
    · refine bi_ok rfl (e := .int g) (by simp [i3, e6, hg]) rfl ?_
      rw [max2_int, hG]
    · rcases List.mem_append.mp hq with z | z
      · have := hall q z; omega
      · rw [List.mem_singleton.mp z]; exact ⟨hm0', by show m < m + G; omega, by show 97 ≤ 97 + c; omega, by show 97 + c ≤ 102; omega⟩
    · rw [List.pairwise_append]
      refine ⟨hup, by simp, fun a ha b hb => ?_⟩
      rw [List.mem_singleton.mp hb]
      exact (hall a ha).2.1
  · rintro ρ ⟨cs, m, x6, x7, rfl, hci, hm0', hall, hup⟩
    have hl12 : cs.length ≤ 12 := by rw [hci, List.length_map, List.length_range]; omega
    refine wp_seq (wp_frz (wp_seq (wp_ret (d := .tuple ((cs.filter fun k => decide (k.m < 10080)).map clD)) ?_ ⟨_, rfl, ?_⟩)))
    · exact un_ok (ev_compT_ok (xs := cs) (enc := clD) (g := clD) (q := fun k => decide (k.m < 10080)) rfl (by omega) fun k _ => ⟨_, rfl, rfl, fun _ => rfl⟩) rfl
    · refine ⟨Nat.le_trans (List.length_filter_le _ _) hl12, fun k hk => ?_, fun k hk => ?_, hup.filter _⟩
      · have h1 := List.mem_filter.mp hk
        exact ⟨(hall k h1.1).1, of_decide_eq_true h1.2⟩
      · have h1 := List.mem_filter.mp hk
        exact (hall k h1.1).2.2
end QL
/-! ### minutes, kinds, hours: the defs that check and answer -/
namespace QB
open PySem
theorem wp_no {N : Env → Prop} {T : PyData → Prop} {ρ : Env} {c : P} {a b : S} {k : Bool} (e : ev c ρ = .ok (.bool k)) (hk : k = false) (h : Wp (ex b ρ) N T) : Wp (ex (.iff c a b) ρ) N T := wp_ifF (by rw [e, hk]) h
theorem wp_yes {N : Env → Prop} {T : PyData → Prop} {ρ : Env} {c : P} {a b : S} {k : Bool} (e : ev c ρ = .ok (.bool k)) (hk : k = true) (h : Wp (ex a ρ) N T) : Wp (ex (.iff c a b) ρ) N T := wp_ifT (by rw [e, hk]) h
end QB
namespace QL
open PySem QB
theorem check_minute_ok {m : Int} (h0 : 0 ≤ m) (h1 : m < 10080) : f_check_minute [.int m] = .ok .none := by
  have i1 : i64 168 = true := by decide
  refine Rets.ok (rets_of rfl (wp_seq (wp_ifF ?_ (wp_nil (wp_nil rfl)))))
  simp [i1, is_int_int, h0, show m ≤ 10079 by omega]
theorem check_caller_ok {c : Nat} (h1 : 97 ≤ c) (h2 : c ≤ 102) : f_check_caller [c1s c] = .ok .none := by
  have := is_caller_ok h1 h2
  exact Rets.ok (rets_of rfl (wp_seq (wp_ifF (nt_ok (fn1_ok rfl this)) (wp_nil (wp_nil rfl)))))
theorem at0 (s : Stg) : bi2 .idx (stD s) (.int 0) = .ok (.tuple (s.q.map tmD)) := rfl
theorem at1 (s : Stg) : bi2 .idx (stD s) (.int 1) = .ok (.str (sg s.near)) := rfl
theorem at2 (s : Stg) : bi2 .idx (stD s) (.int 2) = .ok (.str (sg s.shut)) := rfl
theorem at3 (s : Stg) : bi2 .idx (stD s) (.int 3) = .ok (.int s.again) := rfl
theorem fh_ok {s : Stg} (hs : Good s) : f_find_hours [.tuple (s.q.map tmD)] = .ok (.list ((hrs s.q).map .int)) := find_hours_ok hs.t (by have := hs.few; omega)
theorem is_quiet_ok {s : Stg} (hs : Good s) {m : Int} (h0 : 0 ≤ m) (h1 : m < 10080) : f_is_quiet [stD s, .int m] = .ok (.bool (decide (m / 60 ∈ hrs s.q))) := by
  refine Rets.ok (rets_of rfl (wp_seq (wp_evl (fn1_ok rfl (check_settings_ok hs)) (wp_seq (wp_evl (fn1_ok rfl (check_minute_ok h0 h1)) (wp_seq (wp_ret ?_ rfl)))))))
  exact bi_ok (bi_ok rfl rfl rfl (fdiv_ok (by decide) (by decide))) (fn1_ok (bi_ok rfl rfl rfl (at0 s)) (fh_ok hs)) rfl (inn_ints _ _)
theorem kind_of_ok {s : Stg} (hs : Good s) {c : Nat} (h1 : 97 ≤ c) (h2 : c ≤ 102) : f_kind_of [stD s, c1s c] = .ok (.str (kindS s c)) :=
  Rets.ok (rets_of rfl (wp_seq (wp_evl (fn1_ok rfl (check_settings_ok hs)) (wp_seq (wp_evl (fn1_ok rfl (check_caller_ok h1 h2)) (wp_seq (wp_ret (fn2_ok rfl rfl (find_kind_ok s c)) rfl)))))))
theorem quiet_hours_ok {s : Stg} (hs : Good s) : f_quiet_hours [stD s] = .ok (.list ((hrs s.q).map .int)) :=
  Rets.ok (rets_of rfl (wp_seq (wp_evl (fn1_ok rfl (check_settings_ok hs)) (wp_seq (wp_ret (fn1_ok (bi_ok rfl rfl rfl (at0 s)) (fh_ok hs)) rfl)))))
/-! #### the longest row -/
def cntN (l : List Int) : Nat → Int
  | 0 => 0
  | i + 1 => if ((i : Int) % 168 ∈ l) then cntN l i + 1 else 0
def bestN (l : List Int) : Nat → Int
  | 0 => 0
  | i + 1 => if cntN l (i + 1) > bestN l i then cntN l (i + 1) else bestN l i
theorem longest_row_ok {l : List Int} : f_longest_row [.list (l.map .int)] = .ok (if l.length = 168 then .none else .int (bestN l 336)) := by
  have el : bi2 .eq (.int ((l.map PyData.int).length : Nat)) (.int 168) = .ok (.bool (decide (l.length = 168))) := by
    rw [eq_int, List.length_map]
    congr 2
    by_cases h : l.length = 168
    · rw [decide_eq_true h, decide_eq_true (by omega)]
    · rw [decide_eq_false h, decide_eq_false (by omega)]
  refine Rets.ok (rets_of rfl (wp_seq (wp_if (bi_ok (un_ok rfl rfl) rfl rfl el) (fun h => wp_seq (wp_ret rfl ?_)) (fun h => wp_nil ?_))))
  · rw [if_pos (of_decide_eq_true h)]
  refine wp_seq (wp_par (sls := [.da (.int 0), .da (.int 0)]) rfl rfl ?_)
  refine wp_seq (wp_for (fun i ρ => ∃ x, ρ = [.da (.list (l.map .int)), .da (.int (bestN l i)), .da (.int (cntN l i)), x]) (ds := (List.range 336).map fun k => .int ((k : Nat) : Int)) (rng_lit 336 (by decide)) ⟨.no, rfl⟩ ?_ ?_)
  · rintro i d ρ hd ⟨x, rfl⟩
    have hi : i < 336 := by
      have := (List.getElem?_eq_some_iff.mp hd).1
      simpa using this
    have hdi : d = .int (i : Int) := by
      rw [List.getElem?_map, List.getElem?_range hi] at hd
      exact (Option.some.inj hd).symm
    subst hdi
    refine ⟨_, rfl, ?_⟩
    refine wp_seq (wp_set (d := .int (cntN l (i + 1))) ?_ ?_)
    · refine (ite_ok (x := decide ((i : Int) % 168 ∈ l)) (d := .int (cntN l i + 1)) (e := .int 0) (bi_ok (bi_ok rfl rfl rfl (mod_ok (by decide))) rfl rfl (inn_ints _ _)) (fun _ => rfl) fun _ => rfl).trans ?_
      simp only [decide_eq_true_eq, cntN]
      split <;> rfl
    exact wp_seq (wp_set (d := .int (bestN l (i + 1))) (bi_ok rfl rfl rfl rfl) (wp_nil ⟨_, rfl⟩))
  · rintro ρ ⟨x, rfl⟩
    refine wp_seq (wp_ret rfl ?_)
    rw [if_neg (of_decide_eq_false h), List.length_map, List.length_range]
theorem longest_quiet_ok {s : Stg} (hs : Good s) : f_longest_quiet [stD s] = .ok (if (hrs s.q).length = 168 then .none else .int (bestN (hrs s.q) 336)) :=
  Rets.ok (rets_of rfl (wp_seq (wp_evl (fn1_ok rfl (check_settings_ok hs)) (wp_seq (wp_ret (fn1_ok (fn1_ok (bi_ok rfl rfl rfl (at0 s)) (fh_ok hs)) longest_row_ok) rfl)))))
theorem cnt_nonneg (l : List Int) : ∀ i, 0 ≤ cntN l i
  | 0 => Int.le_refl _
  | i + 1 => by
    have := cnt_nonneg l i
    unfold cntN
    split <;> omega
theorem best_ge {l : List Int} {i : Nat} : ∀ {n : Nat}, i ≤ n → cntN l i ≤ bestN l n
  | 0, h => by
    have : i = 0 := by omega
    subst this; exact Int.le_refl _
  | n + 1, h => by
    unfold bestN
    by_cases hi : i = n + 1
    · subst hi; split <;> omega
    · have := best_ge (l := l) (i := i) (n := n) (by omega)
      split <;> omega
theorem cnt_run {l : List Int} {h : Nat} : ∀ {n : Nat}, (∀ j : Nat, j < n → ((h + j : Nat) : Int) % 168 ∈ l) → (n : Int) ≤ cntN l (h + n)
  | 0, _ => cnt_nonneg l _
  | n + 1, hj => by
    have ih := cnt_run (l := l) (h := h) (n := n) fun j q => hj j (by omega)
    have e := hj n (by omega)
    rw [← Nat.add_assoc, cntN, if_pos e]
    omega
theorem run_best {l : List Int} {h n : Nat} (hn : h + n ≤ 336) (hj : ∀ j : Nat, j < n → ((h + j : Nat) : Int) % 168 ∈ l) : (n : Int) ≤ bestN l 336 := Int.le_trans (cnt_run hj) (best_ge hn)
end QL
/-! ### rows of hours; settings without a quiet time -/
namespace QL
open PySem QB
structure IsLong (l : List Int) (L : Int) : Prop where
  nonneg : 0 ≤ L
  lt : L < 168
  att : ∃ h : Int, 0 ≤ h ∧ h < 168 ∧ ∀ j : Int, 0 ≤ j → j < L → (h + j) % 168 ∈ l
  max : ∀ h n : Int, 0 ≤ h → h < 168 → 0 ≤ n → n ≤ 168 → (∀ j : Int, 0 ≤ j → j < n → (h + j) % 168 ∈ l) → n ≤ L
theorem IsLong.unique {l : List Int} {L M : Int} (a : IsLong l L) (b : IsLong l M) : L = M := by
  obtain ⟨h, h0, h1, hj⟩ := a.att
  obtain ⟨g, g0, g1, gj⟩ := b.att
  have := b.max h L h0 h1 a.nonneg (by have := a.lt; omega) hj
  have := a.max g M g0 g1 b.nonneg (by have := b.lt; omega) gj
  omega
theorem cnt_back (l : List Int) : ∀ (i : Nat) (j : Nat), (j : Int) < cntN l i → j < i ∧ ((i - 1 - j : Nat) : Int) % 168 ∈ l
  | 0, j, h => by unfold cntN at h; omega
  | i + 1, j, h => by
    unfold cntN at h
    split at h
    · rename_i hi
      cases j with
      | zero => exact ⟨by omega, by simpa using hi⟩
      | succ j =>
        obtain ⟨h1, h2⟩ := cnt_back l i j (by push_cast at h; omega)
        refine ⟨by omega, ?_⟩
        rwa [show i + 1 - 1 - (j + 1) = i - 1 - j by omega]
    · omega
theorem best_att (l : List Int) : ∀ n : Nat, ∃ i, i ≤ n ∧ bestN l n = cntN l i
  | 0 => ⟨0, Nat.le_refl _, rfl⟩
  | n + 1 => by
    obtain ⟨i, hi, e⟩ := best_att l n
    unfold bestN
    split
    · exact ⟨n + 1, Nat.le_refl _, rfl⟩
    · exact ⟨i, by omega, e⟩
theorem best_long {l : List Int} (hn : ¬ ∀ x : Int, 0 ≤ x → x < 168 → x ∈ l) : IsLong l (bestN l 336) := by
  obtain ⟨i, hi, e⟩ := best_att l 336
  have h0 := cnt_nonneg l i
  have hb := cnt_back l i
  have hlt : bestN l 336 < 168 := by
    apply Classical.byContradiction
    intro h
    refine hn fun x x0 x1 => ?_
    have := hb (((i : Int) - 1 - x) % 168).toNat (by omega)
    rw [show ((i - 1 - (((i : Int) - 1 - x) % 168).toNat : Nat) : Int) % 168 = x by omega] at this
    exact this.2
  refine ⟨by omega, hlt, ?_, fun h n h0' h1 n0 n1 hj => ?_⟩
  · refine ⟨((i : Int) - bestN l 336) % 168, by omega, by omega, fun j j0 j1 => ?_⟩
    have := hb (bestN l 336 - 1 - j).toNat (by omega)
    have h2 := this.2
    rw [show ((i - 1 - (bestN l 336 - 1 - j).toNat : Nat) : Int) % 168 = (((i : Int) - bestN l 336) % 168 + j) % 168 by omega] at h2
    exact h2
  · have := run_best (l := l) (h := h.toNat) (n := n.toNat) (by omega) fun j q => by
      have := hj (j : Int) (by omega) (by omega)
      rwa [show ((h.toNat + j : Nat) : Int) = h + (j : Int) by omega]
    omega
theorem IsLong.le_len {l : List Int} {L : Int} (h : IsLong l L) : L ≤ l.length := by
  obtain ⟨g, g0, g1, gj⟩ := h.att
  have h0 := h.nonneg
  have h1 := h.lt
  have := L2.nat_nodup_len ((List.range L.toNat).map fun j : Nat => ((g + (j : Int)) % 168).toNat) (l.map Int.toNat) (List.Pairwise.map _ (by
    rintro a b ⟨ha, hb, hab⟩
    have := List.mem_range.mp ha
    have := List.mem_range.mp hb
    omega) (List.Pairwise.and_mem.mp List.pairwise_lt_range)) fun c hc => by
      obtain ⟨j, hj, rfl⟩ := List.mem_map.mp hc
      have := List.mem_range.mp hj
      exact List.mem_map.mpr ⟨_, gj j (by omega) (by omega), rfl⟩
  simp at this
  omega
/-- the hours that are not there -/
def compL168 (l : List Int) : List Int := ((List.range 168).map fun k => ((k : Nat) : Int)).filter fun x => !decide (x ∈ l)
theorem mem_comp168 {l : List Int} {x : Int} : x ∈ compL168 l ↔ 0 ≤ x ∧ x < 168 ∧ x ∉ l := by
  unfold compL168
  rw [List.mem_filter, List.mem_map]
  constructor
  · rintro ⟨⟨k, hk, rfl⟩, h⟩
    have := List.mem_range.mp hk
    simp at h
    exact ⟨by omega, by omega, h⟩
  · rintro ⟨h0, h1, h2⟩
    exact ⟨⟨x.toNat, List.mem_range.mpr (by omega), by omega⟩, by simp [h2]⟩
theorem comp_lt (l : List Int) : (compL168 l).Pairwise (· < ·) := by
  refine List.Pairwise.filter _ ?_
  rw [List.pairwise_map]
  exact List.pairwise_lt_range.imp fun h => by omega
theorem comp_len {l : List Int} (hl : l.Pairwise (· < ·)) (hr : ∀ x ∈ l, 0 ≤ x ∧ x < 168) : (compL168 l).length + l.length = 168 := by
  have h1 : ((List.range 168).map fun k => ((k : Nat) : Int)).length = 168 := by simp
  have e : l = ((List.range 168).map fun k => ((k : Nat) : Int)).filter fun x => decide (x ∈ l) := by
    refine lt_ext hl (List.Pairwise.filter _ (by
      rw [List.pairwise_map]
      exact List.pairwise_lt_range.imp fun h => by omega)) fun x => ?_
    rw [List.mem_filter, List.mem_map]
    constructor
    · intro hx
      have := hr x hx
      exact ⟨⟨x.toNat, List.mem_range.mpr (by omega), by omega⟩, decide_eq_true hx⟩
    · rintro ⟨_, h⟩
      exact of_decide_eq_true h
  have key : ∀ (r : List Int), (r.filter fun x => !decide (x ∈ l)).length + (r.filter fun x => decide (x ∈ l)).length = r.length := by
    intro r
    induction r with
    | nil => rfl
    | cons a r ih =>
      rw [List.filter_cons, List.filter_cons]
      by_cases q : a ∈ l
      · simp only [q, decide_true, Bool.not_true, Bool.false_eq_true, if_false, if_true, List.length_cons]; omega
      · simp only [q, decide_false, Bool.not_false, Bool.false_eq_true, if_false, if_true, List.length_cons]; omega
  have := key ((List.range 168).map fun k => ((k : Nat) : Int))
  rw [← e, h1] at this
  exact this
theorem longest_free_ok {s : Stg} (hs : Good s) : f_longest_free [stD s] = .ok (if (compL168 (hrs s.q)).length = 168 then .none else .int (bestN (compL168 (hrs s.q)) 336)) := by
  refine Rets.ok (rets_of rfl (wp_seq (wp_evl (fn1_ok rfl (check_settings_ok hs)) ?_)))
  refine wp_seq (wp_set (fn1_ok (bi_ok rfl rfl rfl (at0 s)) (fh_ok hs)) ?_)
  refine wp_seq (wp_ret (fn1_ok (d := .list ((compL168 (hrs s.q)).map .int)) ?_ longest_row_ok) rfl)
  refine ev_compT_ok (xs := (List.range 168).map fun k => ((k : Nat) : Int)) (enc := .int) (g := .int) (q := fun x => !decide (x ∈ hrs s.q)) ?_ (by simp) fun h _ => ⟨_, rfl, bi_ok rfl rfl rfl (nin_ints _ _), fun _ => rfl⟩
  rw [List.map_map]
  exact rng_lit 168 (by decide)
/-! #### without a quiet time -/
def dropS (s : Stg) (i : Nat) : Stg := { s with q := s.q.eraseIdx i }
theorem erase_is {α : Type} (l : List α) (i : Nat) : l.take i ++ l.drop (i + 1) = l.eraseIdx i := (List.eraseIdx_eq_take_drop_succ l i).symm
theorem map_erase {α β : Type} (f : α → β) (l : List α) (i : Nat) : (l.eraseIdx i).map f = (l.map f).eraseIdx i := by rw [← erase_is, ← erase_is, List.map_append, List.map_take, List.map_drop]
theorem drop_good {s : Stg} (hs : Good s) (i : Nat) : Good (dropS s i) :=
  ⟨Nat.le_trans (List.length_eraseIdx_le _ _) hs.few, fun t ht => hs.t t (List.mem_of_mem_eraseIdx ht), List.Pairwise.sublist (List.eraseIdx_sublist _ _) hs.up, hs.near, hs.shut, hs.dis, hs.a0, hs.a1⟩
theorem drop_ok {s : Stg} (hs : Good s) {i : Nat} (hi : i < s.q.length) : f_drop [stD s, .int (i : Int)] = .ok (stD (dropS s i)) := by
  have hf := hs.few
  refine Rets.ok (rets_of rfl (wp_seq (wp_set (bi_ok rfl rfl rfl (at0 s)) (wp_seq (wp_ret ?_ rfl)))))
  have hl : (lim : Nat) = 1000000 := rfl
  have e1 : bi2 .add (.tuple ((s.q.map tmD).take (sixN (s.q.map tmD).length (i : Int)))) (.tuple ((s.q.map tmD).drop (sixN (s.q.map tmD).length ((i : Int) + 1)))) = .ok (.tuple ((s.q.eraseIdx i).map tmD)) := by
    show R.when (decide (((s.q.map tmD).take (sixN (s.q.map tmD).length (i : Int))).length + ((s.q.map tmD).drop (sixN (s.q.map tmD).length ((i : Int) + 1))).length ≤ lim)) _ = _
    rw [decide_eq_true (by rw [List.length_take, List.length_drop, List.length_map]; omega), R.when_true, six_nat (by rw [List.length_map]; omega), show ((i : Int) + 1) = ((i + 1 : Nat) : Int) by omega, six_nat (by rw [List.length_map]; omega), erase_is]
    rw [← map_erase]
  refine bi_ok (d := .tuple [.tuple ((s.q.eraseIdx i).map tmD)]) ?_ (bi_ok rfl rfl rfl rfl) rfl rfl
  rw [ev_tup, evs_cons, bi_ok (bi_ok rfl rfl rfl rfl) (bi_ok rfl (bi_ok rfl rfl rfl rfl) rfl rfl) rfl e1]
  rfl
theorem without_quiet_ok {s : Stg} (hs : Good s) {i : Nat} (hi : i < s.q.length) : f_without_quiet [stD s, .int (i : Int)] = .ok (stD (dropS s i)) := by
  refine Rets.ok (rets_of rfl (wp_seq (wp_evl (fn1_ok rfl (check_settings_ok hs)) ?_)))
  refine wp_seq (wp_no (nt_ok (fn3_ok rfl rfl (bi_ok (un_ok (bi_ok rfl rfl rfl (at0 s)) rfl) rfl rfl rfl) (is_int_int _ _ _))) ?_ (wp_nil (wp_seq (wp_ret (fn2_ok rfl rfl (drop_ok hs hi)) rfl))))
  have h1 : (0 : Int) ≤ (i : Int) := by omega
  have h2 : (i : Int) ≤ ((s.q.map tmD).length : Nat) - 1 := by rw [List.length_map]; omega
  rw [decide_eq_true h1, decide_eq_true h2]
  rfl
def needB (s : Stg) (i : Nat) : Bool := decide (hrs (dropS s i).q = hrs s.q)
def needL (s : Stg) : List Int := ((List.range s.q.length).filter (needB s)).map fun i => ((i : Nat) : Int)
theorem needless_ok {s : Stg} (hs : Good s) : f_needless [stD s] = .ok (.list ((needL s).map .int)) := by
  have hf := hs.few
  refine Rets.ok (rets_of rfl (wp_seq (wp_evl (fn1_ok rfl (check_settings_ok hs)) ?_)))
  refine wp_seq (wp_set (fn1_ok (bi_ok rfl rfl rfl (at0 s)) (fh_ok hs)) ?_)
  refine wp_seq (wp_ret (d := .list ((needL s).map .int)) ?_ rfl)
  unfold needL
  rw [List.map_map]
  refine ev_compT_ok (xs := List.range s.q.length) (enc := fun i => .int ((i : Nat) : Int)) (g := fun i => .int ((i : Nat) : Int)) (q := needB s) ?_ (by simp; omega) fun i hi => ⟨_, rfl, ?_, fun _ => rfl⟩
  · rw [evI_rng1, un_ok (bi_ok rfl rfl rfl (at0 s)) rfl]
    show rngI 0 ((s.q.map tmD).length : Nat) = _
    rw [List.length_map]
    exact rng_lit s.q.length (by omega)
  · have hi := List.mem_range.mp hi
    exact bi_ok (fn1_ok (bi_ok (fn2_ok rfl rfl (drop_ok hs hi)) rfl rfl (at0 _)) (fh_ok (drop_good hs i))) rfl rfl (eq_ints _ _)
theorem need_mem {s : Stg} {i : Nat} (hi : i < s.q.length) : decide ((i : Int) ∈ needL s) = needB s i := by
  unfold needL
  rw [Bool.eq_iff_iff, decide_eq_true_eq, List.mem_map]
  constructor
  · rintro ⟨j, hj, e⟩
    have : j = i := by omega
    subst this
    exact (List.mem_filter.mp hj).2
  · intro h
    exact ⟨i, List.mem_filter.mpr ⟨List.mem_range.mpr hi, h⟩, rfl⟩
theorem mem_hrs {q : List Tm} {x : Int} : x ∈ hrs q ↔ ∃ t ∈ q, x ∈ hoursT t := by
  unfold hrs
  rw [mem_sortI, List.mem_flatMap]
theorem hours_ne {t : Tm} (h : GoodT t) : ∃ x, x ∈ hoursT t := by
  obtain ⟨c, r, e⟩ := List.exists_cons_of_ne_nil h.ne
  have := many_pos t
  refine ⟨_, List.mem_flatMap.mpr ⟨c, by rw [e]; exact List.mem_cons_self, List.mem_map.mpr ⟨0, List.mem_range.mpr (by omega), rfl⟩⟩⟩
theorem hrs_nil {q : List Tm} (h : ∀ t ∈ q, GoodT t) : hrs q = [] ↔ q = [] := by
  constructor
  · intro e
    cases q with
    | nil => rfl
    | cons t q =>
      obtain ⟨x, hx⟩ := hours_ne (h t List.mem_cons_self)
      have : x ∈ hrs (t :: q) := mem_hrs.mpr ⟨t, List.mem_cons_self, hx⟩
      rw [e] at this
      cases this
  · rintro rfl
    exact sortI_id (a := []) List.Pairwise.nil
end QL
/-! ### sorting signs and times; None or a number; chains -/
namespace QB
open PySem
theorem chn_ok {ρ : Env} {o o' : Bi} {a b c : P} {d e f : PyData} {x y : Bool} (h1 : ev a ρ = .ok d) (h2 : ev b ρ = .ok e) (h3 : bi2 o d e = .ok (.bool x)) (h4 : ev c ρ = .ok f) (h5 : bi2 o' e f = .ok (.bool y)) : ev (.chn o o' a b c) ρ = .ok (.bool (x && y)) := by
  rw [ev_chn, h1, R.bind_ok, h2, R.bind_ok, h3, boolR_ok, R.bind_ok]
  cases x with
  | true => show (ev c ρ).bind _ = _; rw [h4, R.bind_ok, h5]; rfl
  | false => rfl
theorem eq_nil (ds : List PyData) : bi2 .eq (.list ds) (.list []) = .ok (.bool ds.isEmpty) := by
  show R.when (depOk _ || depOk _) _ = _
  rw [show depOk (.list []) = true from rfl, Bool.or_true, R.when_true]
  cases ds <;> simp [PyData.eqv, PyData.eqvAll]
def opD : Option Int → PyData
  | none => .none
  | some i => .int i
theorem op_eq (o : Option Int) (i : Int) : bi2 .eq (opD o) (.int i) = .ok (.bool (decide (o = some i))) := by
  cases o with
  | none => rfl
  | some j =>
    show bi2 .eq (.int j) (.int i) = _
    rw [eq_int]
    congr 2
    by_cases h : j = i <;> simp [h]
theorem op_ne (o : Option Int) (i : Int) : bi2 .ne (opD o) (.int i) = .ok (.bool (!decide (o = some i))) := by
  cases o with
  | none => rfl
  | some j =>
    show bi2 .ne (.int j) (.int i) = _
    rw [ne_int]
    congr 2
    by_cases h : j = i <;> simp [h]
theorem op_is (o : Option Int) : bi2 .is (opD o) .none = .ok (.bool (decide (o = none))) := by cases o <;> rfl
theorem op_isnt (o : Option Int) : bi2 .isnt (opD o) .none = .ok (.bool (!decide (o = none))) := by cases o <;> rfl
theorem enc_op : IsEnc opD := ⟨fun a b => by
  cases a with
  | none => cases b with
    | none => rfl
    | some j => rfl
  | some i => cases b with
    | none => rfl
    | some j =>
      show PyData.eqv (.int i) (.int j) = _
      rw [eqv_int]
      by_cases h : i = j <;> simp [h], fun a => by cases a <;> exact Nat.zero_le _⟩
theorem len168 (l : List Int) : bi2 .eq (.int ((l.map PyData.int).length : Nat)) (.int 168) = .ok (.bool (decide (l.length = 168))) := by
  rw [eq_int, List.length_map]
  congr 2
  by_cases h : l.length = 168
  · rw [decide_eq_true h, decide_eq_true (by omega)]
  · rw [decide_eq_false h, decide_eq_false (by omega)]
/-! #### sorting -/
def sortN (cs : List Nat) : List Nat := cs.mergeSort fun a b => decide (a ≤ b)
theorem mem_sortN {x : Nat} {ns : List Nat} : x ∈ sortN ns ↔ x ∈ ns := by
  unfold sortN
  rw [(List.mergeSort_perm ..).mem_iff]
theorem sortN_len (ns : List Nat) : (sortN ns).length = ns.length := (List.mergeSort_perm ..).length_eq
theorem sortN_lt {ns : List Nat} (h : ns.Nodup) : (sortN ns).Pairwise (· < ·) := by
  have h1 : (sortN ns).Pairwise fun a b => decide (a ≤ b) = true := List.pairwise_mergeSort (fun a b c h1 h2 => by simp at *; omega) (fun a b => by simp; omega) _
  have h2 : (sortN ns).Nodup := (List.mergeSort_perm ..).nodup_iff.mpr h
  exact (h1.and h2).imp fun ⟨a, b⟩ => by simp at a; omega
theorem lt_extN {a b : List Nat} (ha : a.Pairwise (· < ·)) (hb : b.Pairwise (· < ·)) (h : ∀ x, x ∈ a ↔ x ∈ b) : a = b := by
  have na : a.Nodup := ha.imp fun h => by omega
  have nb : b.Nodup := hb.imp fun h => by omega
  have p : a.Perm b := (List.perm_ext_iff_of_nodup na nb).mpr h
  exact p.eq_of_pairwise (fun x y _ _ h1 h2 => by omega) ha hb
theorem lt_c1 (a b : Nat) : PySem.W.dataLt (c1s a) (c1s b) = decide (a < b) := by
  rw [PySem.W.dataLt_str]
  show decide ([a] < [b]) = _
  by_cases h : a < b
  · rw [decide_eq_true h]
    refine decide_eq_true ?_
    rw [List.cons_lt_cons_iff]
    exact .inl h
  · rw [decide_eq_false h]
    refine decide_eq_false ?_
    rw [List.cons_lt_cons_iff]
    rintro (q | ⟨_, q⟩)
    · exact h q
    · cases q
theorem sortD_c1 (cs : List Nat) : sortD (cs.map c1s) = (sortN cs).map c1s := by
  unfold sortD sortN
  refine (PySem.W.sort_maps (r := fun a b => decide (a ≤ b)) c1s fun a _ b _ => ?_).symm
  show _ = !PySem.W.dataLt (c1s b) (c1s a)
  rw [lt_c1]
  by_cases h : b < a
  · have : ¬ a ≤ b := by omega
    simp [h, this]
  · have : a ≤ b := by omega
    simp [h, this]
theorem srtD_c1 {cs : List Nat} (h : cs.length ≤ 1000000) : srtD (cs.map c1s) = .ok (.list ((sortN cs).map c1s)) := by
  unfold srtD
  have q1 : allAlike (cs.map c1s) = true := by
    unfold allAlike
    rw [List.all_eq_true]
    intro d hd
    rw [List.all_eq_true]
    intro e he
    obtain ⟨a, _, rfl⟩ := List.mem_map.mp hd
    obtain ⟨b, _, rfl⟩ := List.mem_map.mp he
    rfl
  have q2 : sortable (cs.map c1s) = true := by
    unfold sortable
    rw [Bool.or_eq_true]
    right
    rw [List.all_eq_true]
    intro d hd
    obtain ⟨a, _, rfl⟩ := List.mem_map.mp hd
    rfl
  have q3 : lok (cs.map c1s) = true := decide_eq_true (by rw [List.length_map]; exact h)
  have q4 : (cs.map c1s).all depOk = true := by
    rw [List.all_eq_true]
    intro d hd
    obtain ⟨a, _, rfl⟩ := List.mem_map.mp hd
    rfl
  rw [q1, q2, q3, q4, sortD_c1]
  rfl
theorem srt_c1 {cs : List Nat} (h : cs.length ≤ 1000000) : un1 .srt (.list (cs.map c1s)) = .ok (.list ((sortN cs).map c1s)) := by rw [srt_list]; exact srtD_c1 h
theorem srt_tms {ts : List Tm} (nd : ts.Nodup) (hl : ts.length ≤ 1000000) : ∃ us : List Tm, un1 .srt (.list (ts.map tmD)) = .ok (.list (us.map tmD)) ∧ (∀ u, u ∈ us ↔ u ∈ ts) ∧ us.Pairwise (fun a b => ltT a b = true) ∧ us.length = ts.length := by
  refine ⟨ts.mergeSort (PySem.W.dataLe false tmD), ?_, fun u => (List.mergeSort_perm ..).mem_iff, strict_of (PySem.W.sort_pairwise (PySem.W.sortLe_total _ _ _) _) ((List.mergeSort_perm ..).nodup_iff.mpr nd), (List.mergeSort_perm ..).length_eq⟩
  rw [srt_list]
  unfold srtD
  have q1 : allAlike (ts.map tmD) = true := by
    unfold allAlike
    rw [List.all_eq_true]
    intro d hd
    rw [List.all_eq_true]
    intro e he
    obtain ⟨a, _, rfl⟩ := List.mem_map.mp hd
    obtain ⟨b, _, rfl⟩ := List.mem_map.mp he
    exact alike_tm a b
  have q2 : sortable (ts.map tmD) = true := by
    unfold sortable
    rw [Bool.or_eq_true]
    left
    rw [List.all_eq_true]
    intro d hd
    obtain ⟨a, _, rfl⟩ := List.mem_map.mp hd
    rfl
  have q3 : lok (ts.map tmD) = true := decide_eq_true (by rw [List.length_map]; exact hl)
  have q4 : (ts.map tmD).all depOk = true := by
    rw [List.all_eq_true]
    intro d hd
    obtain ⟨a, _, rfl⟩ := List.mem_map.mp hd
    rfl
  rw [q1, q2, q3, q4]
  show R.ok _ = _
  congr 2
  unfold sortD
  exact (PySem.W.sort_maps tmD fun a _ b _ => rfl).symm
theorem up_nodup {q : List Tm} (h : q.Pairwise fun a b => ltT a b = true) : q.Nodup := h.imp fun {a b} q e => by
  subst e
  unfold ltT at q
  rw [PySem.W.dataLt_self] at q
  cases q
theorem toStr_dig {d : Nat} (h : d < 10) : un1 .toStr (.int (d : Int)) = .ok (c1s (48 + d)) := by
  have : d = 0 ∨ d = 1 ∨ d = 2 ∨ d = 3 ∨ d = 4 ∨ d = 5 ∨ d = 6 ∨ d = 7 ∨ d = 8 ∨ d = 9 := by omega
  have key : (toString (d : Int) : Str) = (⟨#[48 + d]⟩ : Str) := by
    rcases this with h | h | h | h | h | h | h | h | h | h <;> subst h <;> decide +kernel
  show R.when (decide ((d : Int).natAbs < 2 ^ 64)) _ = _
  rw [decide_eq_true (by omega), R.when_true]
  exact congrArg (fun z => R.ok (PyData.str z)) key
end QB
/-! ### getting through: the defs of through.py -/
namespace QL
open PySem QB
theorem check_three_ok {s : Stg} (hs : Good s) {c : Nat} (h1 : 97 ≤ c) (h2 : c ≤ 102) {m : Int} (h3 : 0 ≤ m) (h4 : m < 10080) : f_check_three [stD s, c1s c, .int m] = .ok .none :=
  Rets.ok (rets_of rfl (wp_seq (wp_evl (fn1_ok rfl (check_settings_ok hs)) (wp_seq (wp_evl (fn1_ok rfl (check_caller_ok h1 h2)) (wp_seq (wp_evl (fn1_ok rfl (check_minute_ok h3 h4)) (wp_nil rfl))))))))
/-- rings alone -/
def aloneB (s : Stg) (c : Nat) (m : Int) : Bool := decide (c ∈ s.near) || (!decide (c ∈ s.shut) && !decide (m / 60 ∈ hrs s.q))
def fewO (s : Stg) (c : Nat) (m : Int) : Option Int := if aloneB s c m = true then some 1 else if c ∈ s.shut then none else if 0 < s.again ∧ 0 < m then some 2 else none
theorem kind_fr (s : Stg) (c : Nat) : decide (kindS s c = "friend") = decide (c ∈ s.near) := by
  unfold kindS
  by_cases h1 : c ∈ s.near
  · simp [h1]
  · by_cases h2 : c ∈ s.shut
    · simp [h1, h2, s_bf]
    · simp [h1, h2, show ("other" : Str) ≠ "friend" by decide +kernel]
theorem kind_bl (s : Stg) (hs : Good s) (c : Nat) : decide (kindS s c = "blocked") = decide (c ∈ s.shut) := by
  unfold kindS
  by_cases h1 : c ∈ s.near
  · have := hs.dis c h1
    simp [h1, this, s_fb]
  · by_cases h2 : c ∈ s.shut
    · simp [h1, h2]
    · simp [h1, h2, show ("other" : Str) ≠ "blocked" by decide +kernel]
theorem kind_ot (s : Stg) (c : Nat) : decide (kindS s c = "other") = (!decide (c ∈ s.near) && !decide (c ∈ s.shut)) := by
  unfold kindS
  by_cases h1 : c ∈ s.near
  · simp [h1, s_of]
  · by_cases h2 : c ∈ s.shut
    · simp [h1, h2, s_ob]
    · simp [h1, h2]
theorem find_fewest_ok {s : Stg} (hs : Good s) (c : Nat) (m : Int) : f_find_fewest [stD s, c1s c, .int m] = .ok (opD (fewO s c m)) := by
  refine Rets.ok (rets_of rfl ?_)
  refine wp_seq (wp_set (fn2_ok rfl rfl (find_kind_ok s c)) ?_)
  refine wp_seq (wp_if (k := decide (c ∈ s.shut)) (bi_ok rfl rfl rfl (by rw [eq_str, kind_bl s hs])) (fun h => wp_seq (wp_ret rfl ?_)) (fun h => wp_nil ?_))
  · have h := of_decide_eq_true h
    have h' : c ∉ s.near := fun z => hs.dis c z h
    unfold fewO aloneB
    simp [h, h', opD]
  have h := of_decide_eq_false h
  refine wp_seq (wp_if (k := aloneB s c m) ?_ (fun h2 => wp_seq (wp_ret rfl ?_)) (fun h2 => wp_nil ?_))
  · refine (oo_ok (x := !decide (kindS s c = "other")) (y := !decide (m / 60 ∈ hrs s.q)) (bi_ok rfl rfl rfl (ne_str _ _)) (fun _ => bi_ok (bi_ok rfl rfl rfl (fdiv_ok (by decide) (by decide))) (fn1_ok (bi_ok rfl rfl rfl (at0 s)) (fh_ok hs)) rfl (nin_ints _ _))).trans ?_
    rw [kind_ot]
    unfold aloneB
    by_cases h1 : c ∈ s.near <;> simp [h, h1]
  · unfold fewO
    simp [h2, opD]
  · refine wp_seq (wp_ret (ite_ok (x := decide (0 < s.again) && decide (0 < m)) (d := .int 2) (e := .none) (an_ok (bi_ok (bi_ok rfl rfl rfl (at3 s)) rfl rfl (gt_int _ _)) fun _ => rfl) (fun _ => rfl) fun _ => rfl) ?_)
    unfold fewO
    simp only [h2, Bool.false_eq_true, if_false, h, Bool.and_eq_true, decide_eq_true_eq]
    split <;> rfl
theorem fewest_calls_ok {s : Stg} (hs : Good s) {c : Nat} (h1 : 97 ≤ c) (h2 : c ≤ 102) {m : Int} (h3 : 0 ≤ m) (h4 : m < 10080) : f_fewest_calls [stD s, c1s c, .int m] = .ok (opD (fewO s c m)) :=
  Rets.ok (rets_of rfl (wp_seq (wp_evl (fn3_ok rfl rfl rfl (check_three_ok hs h1 h2 h3 h4)) (wp_seq (wp_ret (fn3_ok rfl rfl rfl (find_fewest_ok hs c m)) rfl)))))
def befO (s : Stg) (c : Nat) (m : Int) : Option Int := if fewO s c m = some 2 then some (if m - s.again > 0 then m - s.again else 0) else none
theorem call_before_ok {s : Stg} (hs : Good s) {c : Nat} (h1 : 97 ≤ c) (h2 : c ≤ 102) {m : Int} (h3 : 0 ≤ m) (h4 : m < 10080) : f_call_before [stD s, c1s c, .int m] = .ok (opD (befO s c m)) := by
  refine Rets.ok (rets_of rfl (wp_seq (wp_evl (fn3_ok rfl rfl rfl (check_three_ok hs h1 h2 h3 h4)) (wp_seq (wp_ret (ite_ok (x := decide (fewO s c m = some 2)) (d := .int (if m - s.again > 0 then m - s.again else 0)) (e := .none) (bi_ok (fn3_ok rfl rfl rfl (find_fewest_ok hs c m)) rfl rfl (op_eq _ _)) (fun _ => bi_ok rfl (bi_ok rfl (bi_ok rfl rfl rfl (at3 s)) rfl rfl) rfl rfl) fun _ => rfl) ?_)))))
  unfold befO
  simp only [decide_eq_true_eq]
  split <;> rfl
/-! #### waiting -/
/-- n hours on from h there is the first one that is not quiet -/
def FreeAt (l : List Int) (h : Int) (n : Nat) : Prop := n < 168 ∧ (∀ j : Nat, j < n → (h + (j : Int)) % 168 ∈ l) ∧ (h + (n : Int)) % 168 ∉ l
theorem free_unique {l : List Int} {h : Int} {n m : Nat} (a : FreeAt l h n) (b : FreeAt l h m) : n = m := by
  rcases Nat.lt_trichotomy n m with q | q | q
  · exact absurd (b.2.1 n q) a.2.2
  · exact q
  · exact absurd (a.2.1 m q) b.2.2
def waitV (m : Int) (n : Nat) : Int := if n = 0 then 0 else (m / 60 + (n : Int)) * 60 - m
theorem wait_for_ok {s : Stg} (hs : Good s) {m : Int} (h3 : 0 ≤ m) (h4 : m < 10080) : ∃ o : Option Int, f_wait_for [stD s, .int m] = .ok (opD o) ∧ ((o = none ∧ ∀ x : Int, 0 ≤ x → x < 168 → x ∈ hrs s.q) ∨ ∃ n, FreeAt (hrs s.q) (m / 60) n ∧ o = some (waitV m n)) := by
  suffices h : Rets (f_wait_for [stD s, .int m]) (fun d => ∃ o : Option Int, d = opD o ∧ ((o = none ∧ ∀ x : Int, 0 ≤ x → x < 168 → x ∈ hrs s.q) ∨ ∃ n, FreeAt (hrs s.q) (m / 60) n ∧ o = some (waitV m n))) by
    obtain ⟨d, h1, o, rfl, h2⟩ := h
    exact ⟨o, h1, h2⟩
  refine rets_of rfl (wp_seq (wp_evl (fn1_ok rfl (check_settings_ok hs)) (wp_seq (wp_evl (fn1_ok rfl (check_minute_ok h3 h4)) ?_))))
  refine wp_seq (wp_set (fn1_ok (bi_ok rfl rfl rfl (at0 s)) (fh_ok hs)) ?_)
  refine wp_seq (wp_if (k := !decide (m / 60 ∈ hrs s.q)) (bi_ok (bi_ok rfl rfl rfl (fdiv_ok (by decide) (by decide))) rfl rfl (nin_ints _ _)) (fun h => wp_seq (wp_ret rfl ⟨some 0, rfl, .inr ⟨0, ⟨by decide, fun j hj => absurd hj (Nat.not_lt_zero _), ?_⟩, rfl⟩⟩)) (fun h => wp_nil ?_))
  · simp at h
    rw [show (m / 60 + ((0 : Nat) : Int)) % 168 = m / 60 by omega]
    exact h
  simp at h
  refine wp_seq (wp_for (fun i ρ => ∃ x3 x4, ρ = [.da (stD s), .da (.int m), .da (.list ((hrs s.q).map .int)), x3, x4] ∧ ∀ j : Nat, j < i + 1 → (m / 60 + (j : Int)) % 168 ∈ hrs s.q) (ds := (List.range 167).map fun k => .int (1 + ((k : Nat) : Int))) (rngI_ok (i := 1) (j := 168) (by decide) (by decide) (by decide) (by decide)) ⟨.no, .no, rfl, fun j hj => ?_⟩ ?_ ?_)
  · have : j = 0 := by omega
    subst this
    rw [show (m / 60 + ((0 : Nat) : Int)) % 168 = m / 60 by omega]
    exact h
  · rintro i d ρ hd ⟨x3, x4, rfl, hj⟩
    have hi : i < 167 := by
      have := (List.getElem?_eq_some_iff.mp hd).1
      simpa using this
    have hdi : d = .int (1 + (i : Int)) := by
      rw [List.getElem?_map, List.getElem?_range hi] at hd
      exact (Option.some.inj hd).symm
    subst hdi
    refine ⟨_, rfl, wp_seq (wp_set (d := .int (m / 60 + (1 + (i : Int)))) (bi_ok (bi_ok rfl rfl rfl (fdiv_ok (by decide) (by decide))) rfl rfl rfl) ?_)⟩
    refine wp_seq (wp_if (k := !decide ((m / 60 + (1 + (i : Int))) % 168 ∈ hrs s.q)) (bi_ok (bi_ok rfl rfl rfl (mod_ok (by decide))) rfl rfl (nin_ints _ _)) (fun h2 => ?_) (fun h2 => wp_nil (wp_nil ⟨_, _, rfl, fun j hj2 => ?_⟩)))
    · simp at h2
      refine wp_seq (wp_ret (d := .int ((m / 60 + (1 + (i : Int))) * 60 - m)) (bi_ok (bi_ok rfl rfl rfl (mulr_ok (by decide))) rfl rfl rfl) ⟨some _, rfl, .inr ⟨i + 1, ⟨by omega, hj, ?_⟩, ?_⟩⟩)
      · rw [show (m / 60 + ((i + 1 : Nat) : Int)) = m / 60 + (1 + (i : Int)) by omega]
        exact h2
      · unfold waitV
        rw [if_neg (by omega), show (m / 60 + ((i + 1 : Nat) : Int)) = m / 60 + (1 + (i : Int)) by omega]
    · by_cases q : j < i + 1
      · exact hj j q
      · simp at h2
        rw [show (m / 60 + (j : Int)) = m / 60 + (1 + (i : Int)) by omega]
        exact h2
  · rintro ρ ⟨x3, x4, rfl, hj⟩
    rw [List.length_map, List.length_range] at hj
    refine wp_seq (wp_ret rfl ⟨none, rfl, .inl ⟨rfl, fun x h0 h1 => ?_⟩⟩)
    have := hj ((x - m / 60) % 168).toNat (by omega)
    rw [show (m / 60 + ((((x - m / 60) % 168).toNat : Nat) : Int)) % 168 = x by omega] at this
    exact this
/-! #### never alone -/
def neverL (s : Stg) : List Nat := [97, 98, 99, 100, 101, 102].filter fun c => decide (c ∈ s.shut) || (decide ((hrs s.q).length = 168) && !decide (c ∈ s.near))
theorem never_alone_ok {s : Stg} (hs : Good s) : f_never_alone [stD s] = .ok (.str (sg (neverL s))) := by
  refine Rets.ok (rets_of rfl (wp_seq (wp_evl (fn1_ok rfl (check_settings_ok hs)) ?_)))
  refine wp_seq (wp_set (bi_ok (un_ok (fn1_ok (bi_ok rfl rfl rfl (at0 s)) (fh_ok hs)) rfl) rfl rfl (len168 _)) ?_)
  refine wp_seq (wp_set (ev_comp_ok (xs := [97, 98, 99, 100, 101, 102]) (enc := c1s) (g := fun c => .tuple [c1s c, .str (kindS s c)]) (seq_ok (d := .str "abcdef") rfl (by rw [callers_is]; rfl)) (by decide) fun c _ => ⟨_, rfl, by rw [ev_tup, evs_cons, evs_cons, fn2_ok rfl rfl (find_kind_ok s c)]; rfl⟩) ?_)
  refine wp_seq (wp_ret (join_of (cs := neverL s) ?_ ?_) rfl)
  · refine ev_compT_ok (xs := [97, 98, 99, 100, 101, 102]) (enc := fun c => .tuple [c1s c, .str (kindS s c)]) (g := c1s) (q := fun c => decide (c ∈ s.shut) || (decide ((hrs s.q).length = 168) && !decide (c ∈ s.near))) rfl (by decide) fun c _ => ⟨_, rfl, ?_, fun _ => rfl⟩
    refine (oo_ok (x := decide (kindS s c = "blocked")) (y := decide ((hrs s.q).length = 168) && decide (kindS s c = "other")) (bi_ok rfl rfl rfl (eq_str _ _)) (fun _ => an_ok rfl fun _ => bi_ok rfl rfl rfl (eq_str _ _))).trans ?_
    rw [kind_bl s hs, kind_ot]
    congr 2
    cases decide (c ∈ s.shut) <;> simp
  · exact Nat.le_trans (List.length_filter_le _ _) (by decide)
theorem few1 (s : Stg) (c : Nat) (m : Int) : decide (fewO s c m = some 1) = aloneB s c m := by
  unfold fewO
  cases h : aloneB s c m
  · simp only [Bool.false_eq_true, if_false]
    split
    · rfl
    · split <;> rfl
  · simp
theorem few2 {s : Stg} {c : Nat} {m : Int} : fewO s c m = some 2 ↔ aloneB s c m = false ∧ c ∉ s.shut ∧ 0 < s.again ∧ 0 < m := by
  unfold fewO
  cases h : aloneB s c m
  · simp only [Bool.false_eq_true, if_false]
    by_cases h1 : c ∈ s.shut
    · simp [h1]
    · by_cases h2 : 0 < s.again ∧ 0 < m
      · simp [h1, h2]
      · simp only [h1, h2, if_false, not_false_eq_true, true_and]
        simp
  · simp
theorem few_mem (s : Stg) (c : Nat) (m : Int) : fewO s c m = some 1 ∨ fewO s c m = some 2 ∨ fewO s c m = none := by
  unfold fewO
  split
  · exact .inl rfl
  · split
    · exact .inr (.inr rfl)
    · split
      · exact .inr (.inl rfl)
      · exact .inr (.inr rfl)
theorem good1 {c : Nat} {m : Int} (h1 : 97 ≤ c) (h2 : c ≤ 102) (h3 : 0 ≤ m) (h4 : m < 10080) : GoodC [⟨m, c⟩] :=
  ⟨by simp, fun k hk => by rw [List.mem_singleton.mp hk]; exact ⟨h3, h4⟩, fun k hk => by rw [List.mem_singleton.mp hk]; exact ⟨h1, h2⟩, List.pairwise_singleton _ _⟩
theorem good2 {c : Nat} {b m : Int} (h1 : 97 ≤ c) (h2 : c ≤ 102) (h0 : 0 ≤ b) (h3 : b < m) (h4 : m < 10080) : GoodC [⟨b, c⟩, ⟨m, c⟩] :=
  ⟨by simp, fun k hk => by
    simp only [List.mem_cons, List.not_mem_nil, or_false] at hk
    rcases hk with rfl | rfl
    · exact ⟨h0, by show b < 10080; omega⟩
    · exact ⟨by show 0 ≤ m; omega, h4⟩, fun k hk => by
    simp only [List.mem_cons, List.not_mem_nil, or_false] at hk
    rcases hk with rfl | rfl <;> exact ⟨h1, h2⟩, List.pairwise_cons.mpr ⟨fun a ha => by rw [List.mem_singleton.mp ha]; exact h3, List.pairwise_singleton _ _⟩⟩
theorem ring1 (s : Stg) {c : Nat} {m : Int} (h3 : 0 ≤ m) (h4 : m < 10080) : decide (ringL s [⟨m, c⟩] 0 = [0]) = aloneB s c m := by
  have e : ringS s [⟨m, c⟩] 0 ⟨m, c⟩ 0 = aloneB s c m := by
    unfold ringS aloneB cag
    rw [show (m + 0) % 10080 / 60 = m / 60 by omega]
    by_cases h1 : c ∈ s.near <;> by_cases h2 : c ∈ s.shut <;> simp [h1, h2]
  unfold ringL
  show decide (((([0] : List Nat).filter fun n => ringS s [⟨m, c⟩] n (([⟨m, c⟩] : List Cl).getD n ⟨0, 0⟩) 0).map fun n => ((n : Nat) : Int)) = [0]) = _
  rw [List.filter_cons]
  show decide ((if ringS s [⟨m, c⟩] 0 ⟨m, c⟩ 0 = true then _ else _ : List Nat).map (fun n => ((n : Nat) : Int)) = [0]) = _
  rw [e]
  cases aloneB s c m <;> rfl
theorem ring2 (s : Stg) {c : Nat} {b m : Int} (h3 : 0 ≤ m) (h4 : m < 10080) : decide ((1 : Int) ∈ ringL s [⟨b, c⟩, ⟨m, c⟩] 0) = (aloneB s c m || (decide (m - b ≤ s.again) && !decide (c ∈ s.shut) || decide (c ∈ s.near))) := by
  have e : ringS s [⟨b, c⟩, ⟨m, c⟩] 1 ⟨m, c⟩ 0 = (aloneB s c m || (decide (m - b ≤ s.again) && !decide (c ∈ s.shut) || decide (c ∈ s.near))) := by
    unfold ringS aloneB cag
    rw [show (m + 0) % 10080 / 60 = m / 60 by omega]
    by_cases h1 : c ∈ s.near <;> by_cases h2 : c ∈ s.shut <;> simp [h1, h2]
  rw [← e, Bool.eq_iff_iff, decide_eq_true_eq]
  unfold ringL
  simp only [List.mem_map, List.mem_filter, List.mem_range]
  constructor
  · rintro ⟨a, ⟨_, h⟩, q⟩
    have : a = 1 := by omega
    subst this
    exact h
  · intro h
    exact ⟨1, ⟨by simp, h⟩, rfl⟩
end QL
/-! ### texts: sorted(set(text)), replace by nothing; friends and blocked callers -/
namespace QL
open PySem QB
theorem del_join (c : Nat) : ∀ parts : List Str, (∀ p ∈ parts, c ∉ p.cps.toList) → (Str.join ⟨#[]⟩ parts).cps.toList = (Str.join ⟨#[c]⟩ parts).cps.toList.filter fun x => !decide (x = c)
  | [], _ => rfl
  | [p], h => by
    show p.cps.toList = p.cps.toList.filter _
    exact (List.filter_eq_self.mpr fun x hx => by
      have : x ≠ c := fun z => h p (List.mem_singleton.mpr rfl) (z ▸ hx)
      simp [this]).symm
  | p :: q :: r, h => by
    have ih := del_join c (q :: r) fun a ha => h a (List.mem_cons_of_mem _ ha)
    show (p ++ ⟨#[]⟩ ++ Str.join ⟨#[]⟩ (q :: r)).cps.toList = (p ++ ⟨#[c]⟩ ++ Str.join ⟨#[c]⟩ (q :: r)).cps.toList.filter _
    simp only [Str.cps_append, Array.toList_append, List.filter_append]
    rw [ih]
    have e : (p.cps.toList.filter fun x => !decide (x = c)) = p.cps.toList := List.filter_eq_self.mpr fun x hx => by
      have : x ≠ c := fun z => h p (List.mem_cons_self ..) (z ▸ hx)
      simp [this]
    rw [e]
    simp
theorem replace_del (x : Str) (c : Nat) : (Txt.replace x ⟨#[c]⟩ "").cps.toList = x.cps.toList.filter fun y => !decide (y = c) := by
  have e : ("" : Str) = ⟨#[]⟩ := by decide +kernel
  rw [e, StrLaws.replace_one, del_join c _ (StrLaws.split_free x c), StrLaws.join_split]
def rem (l : List Nat) (c : Nat) : List Nat := l.filter fun x => !decide (x = c)
theorem mem_rem {l : List Nat} {c x : Nat} : x ∈ rem l c ↔ x ∈ l ∧ x ≠ c := by unfold rem; simp
theorem replace_sg (l : List Nat) (c : Nat) : Txt.replace (sg l) ⟨#[c]⟩ "" = sg (rem l c) := by
  have h := replace_del (sg l) c
  have e : (sg l).cps.toList = l := rfl
  rw [e] at h
  cases hr : Txt.replace (sg l) ⟨#[c]⟩ "" with
  | mk a =>
    rw [hr] at h
    unfold sg rem
    rw [← h]
theorem strOk_sg {l : List Nat} (h : ∀ c ∈ l, c < 128) : PyData.strOk (sg l) = true := by
  show (l.toArray).all (· < 0x110000) = true
  rw [List.all_toArray, List.all_eq_true]
  intro c hc
  have := h c hc
  exact decide_eq_true (by omega)
theorem rep_ok {l : List Nat} {c : Nat} (hl : l.length ≤ 1000) (h : ∀ c ∈ l, c < 128) : rep3 (.str (sg l)) (c1s c) (.str "") = .ok (.str (sg (rem l c))) := by
  show R.when (decide ((sg l).length ≤ 1000 ∧ (⟨#[c]⟩ : Str).length = 1 ∧ ("" : Str).length = 0) && PySem.PyData.strOk (PySem.Txt.replace (sg l) ⟨#[c]⟩ "")) (R.ok (PyData.str (PySem.Txt.replace (sg l) ⟨#[c]⟩ ""))) = _
  have e0 : ("" : Str).length = 0 := by decide +kernel
  rw [replace_sg, strOk_sg (fun x hx => h x (mem_rem.mp hx).1), decide_eq_true ⟨by rw [sg_len]; exact hl, rfl, e0⟩]
  rfl
theorem dedupE_len {α : Type} [DecidableEq α] : ∀ l : List α, (dedupE l).length ≤ l.length
  | [] => Nat.le_refl _
  | k :: l => by rw [dedupE, List.length_cons, List.length_cons]; exact Nat.succ_le_succ (Nat.le_trans (List.length_filter_le _ _) (dedupE_len l))
def uniqN (l : List Nat) : List Nat := sortN (dedupE l)
theorem mem_uniq {l : List Nat} {x : Nat} : x ∈ uniqN l ↔ x ∈ l := by unfold uniqN; rw [mem_sortN, mem_dedupE]
theorem uniq_lt (l : List Nat) : (uniqN l).Pairwise (· < ·) := sortN_lt (nodup_dedupE l)
theorem uniq_len (l : List Nat) : (uniqN l).length ≤ l.length := by unfold uniqN; rw [sortN_len]; exact dedupE_len l
theorem sset_ds {l : List Nat} (h : l.length ≤ 2000) : R.when (setOk (l.map c1s)) (srtD (dedup (l.map c1s))) = .ok (.list ((uniqN l).map c1s)) := by
  have hs : ∀ l : List Nat, (asStrs (l.map c1s)).isSome = true := by
    intro l
    induction l with
    | nil => rfl
    | cons a l ih =>
      show ((asStrs (l.map c1s)).map _).isSome = true
      rw [Option.isSome_map]; exact ih
  have ho : setOk (l.map c1s) = true := by
    unfold setOk
    rw [hs, List.length_map, decide_eq_true h]; simp
  rw [ho, R.when_true, dedup_map enc_c1.eq, srtD_c1 (Nat.le_trans (dedupE_len l) (by omega))]
  rfl
theorem sset_sg {l : List Nat} (h : l.length ≤ 2000) : un1 .sset (.str (sg l)) = .ok (.list ((uniqN l).map c1s)) := by
  have e : setSrc (.str (sg l)) = some (l.map c1s) := by
    show (if (sg l).length ≤ 2000 then some _ else none) = _
    rw [sg_len, if_pos h, sg_cps]
  show R.of (setSrc (.str (sg l))) _ = _
  rw [e, R.of_some]
  exact sset_ds h
theorem sset_c1 {l : List Nat} (h : l.length ≤ 2000) : un1 .sset (.list (l.map c1s)) = .ok (.list ((uniqN l).map c1s)) := sset_ds h
theorem add_sg {a b : List Nat} (h : a.length + b.length ≤ 1000) : bi2 .add (.str (sg a)) (.str (sg b)) = .ok (.str (sg (a ++ b))) := by
  show R.when (decide ((sg a).length + (sg b).length ≤ lim)) (R.ok (PyData.str (sg a ++ sg b))) = _
  rw [decide_eq_true (by rw [sg_len, sg_len]; show _ ≤ 1000000; omega)]
  show R.ok _ = R.ok _
  congr 2
  show (⟨a.toArray ++ b.toArray⟩ : Str) = ⟨(a ++ b).toArray⟩
  simp
theorem add_ok {a b : List Nat} (h : a.length + b.length ≤ 1000) : f_add [.str (sg a), .str (sg b)] = .ok (.str (sg (uniqN (a ++ b)))) := by
  refine Rets.ok (rets_of rfl (wp_seq (wp_ret (join_of (un_ok (bi_ok rfl rfl rfl (add_sg h)) (sset_sg (by rw [List.length_append]; omega))) ?_) rfl)))
  have := uniq_len (a ++ b)
  rw [List.length_append] at this
  omega
/-! #### with_friend, with_blocked -/
def friS (s : Stg) (c : Nat) : Stg := { s with near := uniqN (s.near ++ [c]), shut := rem s.shut c }
def bloS (s : Stg) (c : Nat) : Stg := { s with near := rem s.near c, shut := uniqN (s.shut ++ [c]) }
theorem row_uniq {l : List Nat} {c : Nat} (h : Row 97 102 l) (h1 : 97 ≤ c) (h2 : c ≤ 102) : Row 97 102 (uniqN (l ++ [c])) := ⟨uniq_lt _, fun x hx => by
  rw [mem_uniq, List.mem_append, List.mem_singleton] at hx
  rcases hx with q | rfl
  · exact h.2 x q
  · exact ⟨h1, h2⟩⟩
theorem row_rem {l : List Nat} {c : Nat} (h : Row 97 102 l) : Row 97 102 (rem l c) := ⟨h.1.filter _, fun x hx => h.2 x (mem_rem.mp hx).1⟩
theorem fri_good {s : Stg} (hs : Good s) {c : Nat} (h1 : 97 ≤ c) (h2 : c ≤ 102) : Good (friS s c) where
  few := hs.few
  t := hs.t
  up := hs.up
  near := row_uniq hs.near h1 h2
  shut := row_rem hs.shut
  dis := fun x hx => by
    rw [show (friS s c).near = uniqN (s.near ++ [c]) from rfl, mem_uniq, List.mem_append, List.mem_singleton] at hx
    rw [show (friS s c).shut = rem s.shut c from rfl, mem_rem]
    rintro ⟨q1, q2⟩
    rcases hx with q | q
    · exact hs.dis x q q1
    · exact q2 q
  a0 := hs.a0
  a1 := hs.a1
theorem blo_good {s : Stg} (hs : Good s) {c : Nat} (h1 : 97 ≤ c) (h2 : c ≤ 102) : Good (bloS s c) where
  few := hs.few
  t := hs.t
  up := hs.up
  near := row_rem hs.near
  shut := row_uniq hs.shut h1 h2
  dis := fun x hx => by
    rw [show (bloS s c).near = rem s.near c from rfl, mem_rem] at hx
    rw [show (bloS s c).shut = uniqN (s.shut ++ [c]) from rfl, mem_uniq, List.mem_append, List.mem_singleton]
    rintro (q | q)
    · exact hs.dis x hx.1 q
    · exact hx.2 q
  a0 := hs.a0
  a1 := hs.a1
theorem c1_sg (c : Nat) : c1s c = .str (sg [c]) := rfl
theorem with_friend_ok {s : Stg} (hs : Good s) {c : Nat} (h1 : 97 ≤ c) (h2 : c ≤ 102) : f_with_friend [stD s, c1s c] = .ok (stD (friS s c)) := by
  refine Rets.ok (rets_of rfl (wp_seq (wp_evl (fn1_ok rfl (check_settings_ok hs)) (wp_seq (wp_evl (fn1_ok rfl (check_caller_ok h1 h2)) (wp_seq (wp_asg rfl rfl (wp_seq (wp_ret ?_ rfl)))))))))
  have l1 := row_small hs.near
  have l2 := row_small hs.shut
  have e1 : ev (.fn "add" f_add (.cons (.var 3) (.cons (.var 1) .nil))) [.da (stD s), .da (c1s c), .da (.tuple (s.q.map tmD)), .da (.str (sg s.near)), .da (.str (sg s.shut)), .da (.int s.again)] = .ok (.str (sg (uniqN (s.near ++ [c])))) :=
    fn2_ok rfl rfl (by rw [c1_sg]; exact add_ok (by simp; omega))
  have e2 : ev (.repl (.var 4) (.var 1) (.cst (.str ""))) [.da (stD s), .da (c1s c), .da (.tuple (s.q.map tmD)), .da (.str (sg s.near)), .da (.str (sg s.shut)), .da (.int s.again)] = .ok (.str (sg (rem s.shut c))) :=
    rep_ok (by omega) fun x hx => by have := (hs.shut.2 x hx).2; omega
  show ((evs _ [.da (stD s), .da (c1s c), .da (.tuple (s.q.map tmD)), .da (.str (sg s.near)), .da (.str (sg s.shut)), .da (.int s.again)]).bind fun ds => R.ok (PyData.tuple ds)) = _
  rw [evs_cons, evs_cons, e1, evs_cons, e2]
  rfl
theorem with_blocked_ok {s : Stg} (hs : Good s) {c : Nat} (h1 : 97 ≤ c) (h2 : c ≤ 102) : f_with_blocked [stD s, c1s c] = .ok (stD (bloS s c)) := by
  refine Rets.ok (rets_of rfl (wp_seq (wp_evl (fn1_ok rfl (check_settings_ok hs)) (wp_seq (wp_evl (fn1_ok rfl (check_caller_ok h1 h2)) (wp_seq (wp_asg rfl rfl (wp_seq (wp_ret ?_ rfl)))))))))
  have l1 := row_small hs.near
  have l2 := row_small hs.shut
  have e1 : ev (.fn "add" f_add (.cons (.var 4) (.cons (.var 1) .nil))) [.da (stD s), .da (c1s c), .da (.tuple (s.q.map tmD)), .da (.str (sg s.near)), .da (.str (sg s.shut)), .da (.int s.again)] = .ok (.str (sg (uniqN (s.shut ++ [c])))) :=
    fn2_ok rfl rfl (by rw [c1_sg]; exact add_ok (by simp; omega))
  have e2 : ev (.repl (.var 3) (.var 1) (.cst (.str ""))) [.da (stD s), .da (c1s c), .da (.tuple (s.q.map tmD)), .da (.str (sg s.near)), .da (.str (sg s.shut)), .da (.int s.again)] = .ok (.str (sg (rem s.near c))) :=
    rep_ok (by omega) fun x hx => by have := (hs.near.2 x hx).2; omega
  show ((evs _ [.da (stD s), .da (c1s c), .da (.tuple (s.q.map tmD)), .da (.str (sg s.near)), .da (.str (sg s.shut)), .da (.int s.again)]).bind fun ds => R.ok (PyData.tuple ds)) = _
  rw [evs_cons, evs_cons, e2, evs_cons, e1]
  rfl
end QL
/-! ### effects, rings_more, silent, reached, fewest_friends, least_again -/
namespace QL
open PySem QB
def callL : List Nat := [97, 98, 99, 100, 101, 102]
theorem mem_call {c : Nat} : c ∈ callL ↔ 97 ≤ c ∧ c ≤ 102 := by
  simp only [callL, List.mem_cons, List.not_mem_nil, or_false]
  omega
theorem call_up : callL.Pairwise (· < ·) := by decide
theorem fn4_ok {ρ : QB.Env} {a b c d : P} {u v w x : PyData} {r : R PyData} {n : Str} {m : List PyData → R PyData} (h : ev a ρ = .ok u) (h' : ev b ρ = .ok v) (h'' : ev c ρ = .ok w) (h''' : ev d ρ = .ok x) (h2 : m [u, v, w, x] = r) : ev (.fn n m (.cons a (.cons b (.cons c (.cons d .nil))))) ρ = r := by rw [ev_fn, evs_cons, h, R.bind_ok, evs_cons, h', R.bind_ok, evs_cons, h'', R.bind_ok, evs_cons, h''']; exact h2
theorem fn5_ok {ρ : QB.Env} {a b c d e : P} {u v w x y : PyData} {r : R PyData} {n : Str} {m : List PyData → R PyData} (h : ev a ρ = .ok u) (h' : ev b ρ = .ok v) (h'' : ev c ρ = .ok w) (h''' : ev d ρ = .ok x) (h4 : ev e ρ = .ok y) (h2 : m [u, v, w, x, y] = r) : ev (.fn n m (.cons a (.cons b (.cons c (.cons d (.cons e .nil)))))) ρ = r := by rw [ev_fn, evs_cons, h, R.bind_ok, evs_cons, h', R.bind_ok, evs_cons, h'', R.bind_ok, evs_cons, h''', R.bind_ok, evs_cons, h4]; exact h2
theorem inn_c (c : Nat) (l : List Nat) : bi2 .inn (c1s c) (.str (sg l)) = .ok (.bool (decide (c ∈ l))) := by rw [inn_str, strIn_one]
theorem nin_c (c : Nat) (l : List Nat) : bi2 .nin (c1s c) (.str (sg l)) = .ok (.bool (!decide (c ∈ l))) := by rw [nin_str, strIn_one]
theorem add_lists {xs ys : List PyData} (h : xs.length + ys.length ≤ 1000000) : bi2 .add (.list xs) (.list ys) = .ok (.list (xs ++ ys)) := by
  show R.when (decide (xs.length + ys.length ≤ 1000000)) _ = _
  rw [decide_eq_true h]; rfl
theorem ne_bool (a b : Bool) : bi2 .ne (.bool a) (.bool b) = .ok (.bool (!decide (a = b))) := ne_enc enc_bool a b
theorem check_two_ok {s t : Stg} (hs : Good s) (ht : Good t) : f_check_two [stD s, stD t] = .ok .none :=
  Rets.ok (rets_of rfl (wp_seq (wp_evl (fn1_ok rfl (check_settings_ok hs)) (wp_seq (wp_evl (fn1_ok rfl (check_settings_ok ht)) (wp_nil rfl))))))
theorem same_quiet_ok {s t : Stg} (hs : Good s) (ht : Good t) : f_same_quiet [stD s, stD t] = .ok (.bool (decide (hrs s.q = hrs t.q))) :=
  Rets.ok (rets_of rfl (wp_seq (wp_evl (fn2_ok rfl rfl (check_two_ok hs ht)) (wp_seq (wp_ret (bi_ok (fn1_ok (bi_ok rfl rfl rfl (at0 s)) (fh_ok hs)) (fn1_ok (bi_ok rfl rfl rfl (at0 t)) (fh_ok ht)) rfl (eq_ints _ _)) rfl)))))
/-! #### effects -/
def singleB (s : Stg) (c : Nat) (h : Int) : Bool := decide (c ∈ s.near) || (!decide (c ∈ s.shut) && !decide (h ∈ hrs s.q))
def alwB (s : Stg) (c : Nat) : Bool := decide (c ∈ s.near) || (!decide (c ∈ s.shut) && (hrs s.q).isEmpty)
def nevB (s : Stg) (c : Nat) : Bool := decide (c ∈ s.shut) || (decide ((hrs s.q).length = 168) && decide (s.again = 0))
def effS (s : Stg) (c : Nat) : Str := if alwB s c = true then "always" else if nevB s c = true then "never" else "sometimes"
theorem e_an : ("always" : Str) ≠ "never" := by decide +kernel
theorem e_as : ("always" : Str) ≠ "sometimes" := by decide +kernel
theorem e_ns : ("never" : Str) ≠ "sometimes" := by decide +kernel
theorem eff_a (s : Stg) (c : Nat) : decide (effS s c = "always") = alwB s c := by
  unfold effS
  cases alwB s c
  · cases nevB s c
    · simp [Ne.symm e_as]
    · simp [Ne.symm e_an]
  · simp
theorem eff_n (s : Stg) (c : Nat) : decide (effS s c = "never") = (!alwB s c && nevB s c) := by
  unfold effS
  cases alwB s c
  · cases nevB s c
    · simp [Ne.symm e_ns]
    · simp
  · simp [e_an]
theorem eff_s (s : Stg) (c : Nat) : decide (effS s c = "sometimes") = (!alwB s c && !nevB s c) := by
  unfold effS
  cases alwB s c
  · cases nevB s c
    · simp
    · simp [e_ns]
  · simp [e_as]
theorem again0 (s : Stg) : bi2 .eq (.int s.again) (.int 0) = .ok (.bool (decide (s.again = 0))) := eq_int _ _
theorem find_effect_ok {s : Stg} (hs : Good s) (c : Nat) : f_find_effect [stD s, .list ((hrs s.q).map .int), c1s c] = .ok (.str (effS s c)) := by
  refine Rets.ok (rets_of rfl ?_)
  refine wp_seq (wp_set (fn2_ok rfl rfl (find_kind_ok s c)) ?_)
  refine wp_seq (wp_if (k := alwB s c) (oo_ok (bi_ok rfl rfl rfl (by rw [eq_str, kind_fr])) fun _ => an_ok (bi_ok rfl rfl rfl (by rw [ne_str, kind_bl s hs])) fun _ => bi_ok rfl rfl rfl (by rw [eq_nil, List.isEmpty_map])) (fun h => wp_seq (wp_ret rfl ?_)) (fun h => wp_nil ?_))
  · unfold effS; rw [if_pos h]
  refine wp_seq (wp_ret (ite_ok (x := nevB s c) (oo_ok (bi_ok rfl rfl rfl (by rw [eq_str, kind_bl s hs])) fun _ => an_ok (bi_ok (un_ok rfl rfl) rfl rfl (len168 _)) fun _ => bi_ok (bi_ok rfl rfl rfl (at3 s)) rfl rfl (again0 s)) (fun _ => rfl) fun _ => rfl) ?_)
  unfold effS
  rw [h]
  simp only [Bool.false_eq_true, if_false]
  split <;> rfl
theorem rings_alone_ok {s : Stg} {c : Nat} {h : Int} (h0 : 0 ≤ h) (h1 : h < 168) : f_rings_alone [.str (effS s c), .list ((hrs s.q).map .int), .int h] = .ok (.bool (singleB s c h)) := by
  refine Rets.ok (rets_of rfl (wp_seq (wp_ret (oo_ok (x := alwB s c) (y := (!alwB s c && !nevB s c) && !decide (h ∈ hrs s.q)) (bi_ok rfl rfl rfl (by rw [eq_str, eff_a])) fun _ => an_ok (bi_ok rfl rfl rfl (by rw [eq_str, eff_s])) fun _ => bi_ok rfl rfl rfl (nin_ints _ _)) ?_)))
  have hfull := full_iff (hrs_lt s.q) fun x hx => hrs_range hx
  congr 1
  unfold alwB nevB singleB
  by_cases a : c ∈ s.near
  · simp [a]
  · by_cases b : c ∈ s.shut
    · simp [a, b]
    · by_cases e : hrs s.q = []
      · simp [a, b, e]
      · by_cases f : (hrs s.q).length = 168
        · have := hfull.mp f h h0 h1
          simp [a, b, e, f, this]
        · have e' : (hrs s.q).isEmpty = false := by simpa using e
          simp [a, b, e', f]
theorem all_effects_ok {s : Stg} (hs : Good s) : f_all_effects [stD s, .list ((hrs s.q).map .int)] = .ok (.list (callL.map fun c => .str (effS s c))) :=
  Rets.ok (rets_of rfl (wp_seq (wp_ret (ev_comp_ok (xs := callL) (enc := c1s) (seq_ok (d := .str "abcdef") rfl (by rw [callers_is]; rfl)) (by decide) fun c _ => ⟨_, rfl, fn3_ok rfl rfl rfl (find_effect_ok hs c)⟩) rfl)))
def moreC (s t : Stg) (c : Nat) : Bool := alwB s c || (!alwB t c && nevB t c) || (!((!alwB s c && nevB s c) || (alwB t c || decide (s.again < t.again))) && !(hrs s.q).any fun h => !decide (h ∈ hrs t.q))
def moreB (s t : Stg) : Bool := callL.all (moreC s t)
theorem lt_again (s t : Stg) : bi2 .lt (.int s.again) (.int t.again) = .ok (.bool (decide (s.again < t.again))) := rfl
theorem callers_sq {ρ : QB.Env} {x : Str} : evI (.seq (.glb x (.str "abcdef"))) ρ = .ok (callL.map c1s) := seq_ok (d := .str "abcdef") rfl (by rw [callers_is]; rfl)
theorem rings_more_ok {s t : Stg} (hs : Good s) (ht : Good t) : f_rings_more [stD s, stD t] = .ok (.bool (moreB s t)) := by
  refine Rets.ok (rets_of rfl ?_)
  refine wp_seq (wp_evl (fn2_ok rfl rfl (check_two_ok hs ht)) ?_)
  refine wp_seq (wp_par (sls := [.da (.list ((hrs s.q).map .int)), .da (.list ((hrs t.q).map .int))]) (by rw [evP_cons, evP_cons, ev1_fn, ev1_fn, fn1_ok (bi_ok rfl rfl rfl (at0 s)) (fh_ok hs), fn1_ok (bi_ok rfl rfl rfl (at0 t)) (fh_ok ht)]; rfl) rfl ?_)
  refine wp_seq (wp_for (fun i ρ => (∃ a b c, ρ = [.da (stD s), .da (stD t), .da (.list ((hrs s.q).map .int)), .da (.list ((hrs t.q).map .int)), a, b, c]) ∧ ∀ c ∈ callL.take i, moreC s t c = true) (callers_sq) ⟨⟨_, _, _, rfl⟩, fun c h => by simp at h⟩ (fun i d ρ hd hI => ?_) fun ρ hI => ?_)
  · obtain ⟨⟨x, y, z, rfl⟩, hI⟩ := hI
    rw [List.getElem?_map] at hd
    cases hc : callL[i]? with
    | none => rw [hc] at hd; cases hd
    | some c =>
    rw [hc] at hd
    cases hd
    refine ⟨_, rfl, ?_⟩
    have et : ev (.tup (.cons (.fn "find_effect" f_find_effect (.cons (.var 0) (.cons (.var 2) (.cons (.var 4) .nil)))) (.cons (.fn "find_effect" f_find_effect (.cons (.var 1) (.cons (.var 3) (.cons (.var 4) .nil)))) .nil))) [.da (stD s), .da (stD t), .da (.list ((hrs s.q).map .int)), .da (.list ((hrs t.q).map .int)), .da (c1s c), y, z] = .ok (.tuple [.str (effS s c), .str (effS t c)]) := by
      rw [ev_tup, evs_cons, fn3_ok rfl rfl rfl (find_effect_ok hs c), R.bind_ok, evs_cons, fn3_ok rfl rfl rfl (find_effect_ok ht c)]
      rfl
    refine wp_seq (wp_set et ?_)
    have step : moreC s t c = true → ∀ c' ∈ callL.take (i + 1), moreC s t c' = true := fun h c' hc' => by
      rw [List.take_add_one, hc, List.mem_append] at hc'
      rcases hc' with q | q
      · exact hI c' q
      · have : c' = c := by simpa using q
        subst this; exact h
    have fals : moreC s t c = false → moreB s t = false := fun h => by
      unfold moreB
      cases q : callL.all (moreC s t) with
      | false => rfl
      | true =>
        rw [List.all_eq_true] at q
        rw [q c (List.mem_of_getElem? hc)] at h
        cases h
    refine wp_seq (wp_if (k := !alwB s c && !(!alwB t c && nevB t c)) (an_ok (bi_ok (bi_ok rfl rfl rfl rfl) rfl rfl (by rw [ne_str, eff_a])) fun _ => bi_ok (bi_ok rfl rfl rfl rfl) rfl rfl (by rw [ne_str, eff_n])) (fun h => ?_) (fun h => wp_nil (wp_nil ⟨⟨_, _, _, rfl⟩, step ?_⟩)))
    · refine wp_seq (wp_if (k := (!alwB s c && nevB s c) || (alwB t c || decide (s.again < t.again))) (oo_ok (bi_ok (bi_ok rfl rfl rfl rfl) rfl rfl (by rw [eq_str, eff_n])) fun _ => oo_ok (bi_ok (bi_ok rfl rfl rfl rfl) rfl rfl (by rw [eq_str, eff_a])) fun _ => bi_ok (bi_ok rfl rfl rfl (at3 s)) (bi_ok rfl rfl rfl (at3 t)) rfl (lt_again s t)) (fun h2 => wp_seq (wp_ret rfl ?_)) (fun h2 => wp_nil ?_))
      · rw [fals]
        unfold moreC
        rw [h2]
        cases qa : alwB s c <;> cases qb : alwB t c <;> cases qc : nevB t c <;> simp_all
      · refine wp_seq (wp_if (any_comp (xs := hrs s.q) (enc := .int) (p := fun h => !decide (h ∈ hrs t.q)) (seq_ok rfl rfl) (by have := hrs_len hs.t (by have := hs.few; omega); omega) fun x _ => ⟨_, rfl, bi_ok rfl rfl rfl (nin_ints _ _)⟩) (fun h3 => wp_seq (wp_ret rfl ?_)) (fun h3 => wp_nil (wp_nil (wp_nil ⟨⟨_, _, _, rfl⟩, step ?_⟩))))
        · rw [fals]
          unfold moreC
          rw [h2, h3]
          cases qa : alwB s c <;> cases qb : alwB t c <;> cases qc : nevB t c <;> simp_all
        · unfold moreC
          rw [h2, h3]
          simp
    · unfold moreC
      cases qa : alwB s c <;> cases qb : alwB t c <;> cases qc : nevB t c <;> simp_all
  · obtain ⟨⟨x, y, z, rfl⟩, hI⟩ := hI
    refine wp_seq (wp_ret rfl ?_)
    have : moreB s t = true := by
      unfold moreB
      rw [List.all_eq_true]
      intro c hc
      exact hI c (by rw [List.length_map, List.take_length]; exact hc)
    rw [this]
/-! #### calls that do not ring -/
def silN (s : Stg) (cs : List Cl) : List Nat := (List.range cs.length).filter (silB s cs)
def natI (l : List Nat) : List Int := l.map fun n => ((n : Nat) : Int)
theorem natI_map (l : List Nat) : (natI l).map PyData.int = l.map fun n => .int ((n : Nat) : Int) := by unfold natI; rw [List.map_map]; rfl
theorem silent_ok {s : Stg} (hs : Good s) {cs : List Cl} (h : GoodC cs) : f_silent [stD s, .tuple (cs.map clD)] = .ok (.list ((natI (silN s cs)).map .int)) := by
  rw [natI_map]
  exact Rets.ok (rets_of rfl (wp_seq (wp_evl (fn2_ok rfl rfl (check_calls_ok hs h)) (wp_seq (wp_ret (fn2_ok rfl rfl (find_silent_ok hs (by have := h.few; omega))) rfl)))))
def callAt (cs : List Cl) (n : Nat) : Nat := (cs.getD n ⟨0, 0⟩).c
theorem get_at {cs : List Cl} {n : Nat} (h : n < cs.length) : cs[n]? = some (cs.getD n ⟨0, 0⟩) := by
  rw [List.getD_eq_getElem?_getD, List.getElem?_eq_getElem h]; rfl
theorem call_idx {cs : List Cl} {n : Nat} (h : n < cs.length) : bi2 .idx (.tuple (cs.map clD)) (.int (n : Int)) = .ok (clD (cs.getD n ⟨0, 0⟩)) := by
  show R.of (L2.atI (cs.map clD) (n : Int)) _ = _
  rw [at_map (get_at h)]; rfl
theorem cl_one (k : Cl) : bi2 .idx (clD k) (.int 1) = .ok (c1s k.c) := rfl
def fewL (s : Stg) (cs : List Cl) : List Nat := uniqN ((silN s cs).map (callAt cs))
theorem sil_lt {s : Stg} {cs : List Cl} {n : Nat} (h : n ∈ silN s cs) : n < cs.length := List.mem_range.mp (List.mem_filter.mp h).1
theorem sil_len (s : Stg) (cs : List Cl) : (silN s cs).length ≤ cs.length := Nat.le_trans (List.length_filter_le _ _) (by simp)
theorem fewest_friends_ok {s : Stg} (hs : Good s) {cs : List Cl} (h : GoodC cs) : f_fewest_friends [stD s, .tuple (cs.map clD)] = .ok (.str (sg (fewL s cs))) := by
  have hl := h.few
  have hl2 := sil_len s cs
  refine Rets.ok (rets_of rfl (wp_seq (wp_evl (fn2_ok rfl rfl (check_calls_ok hs h)) (wp_seq (wp_ret (fn2_ok (d := .str (sg [])) (e := .str (sg ((silN s cs).map (callAt cs)))) (by rw [← empty_is]; rfl) (join_of (cs := (silN s cs).map (callAt cs)) ?_ (by simp; omega)) (add_ok (by simp; omega))) rfl)))))
  rw [List.map_map]
  exact ev_comp_ok (xs := silN s cs) (enc := fun n => .int ((n : Nat) : Int)) (seq_ok (fn2_ok rfl rfl (find_silent_ok hs (by omega))) rfl) (by omega) fun n hn => ⟨_, rfl, bi_ok (bi_ok rfl rfl rfl (call_idx (sil_lt hn))) rfl rfl (cl_one _)⟩
def ringN (s : Stg) (cs : List Cl) : List Nat := (List.range cs.length).filter fun n => ringS s cs n (cs.getD n ⟨0, 0⟩) 0
theorem ringL_is (s : Stg) (cs : List Cl) : ringL s cs 0 = natI (ringN s cs) := rfl
def reaN (s : Stg) (cs : List Cl) : List Nat := uniqN ((ringN s cs).map (callAt cs))
theorem ring_lt {s : Stg} {cs : List Cl} {n : Nat} (h : n ∈ ringN s cs) : n < cs.length := List.mem_range.mp (List.mem_filter.mp h).1
theorem ring_len (s : Stg) (cs : List Cl) : (ringN s cs).length ≤ cs.length := Nat.le_trans (List.length_filter_le _ _) (by simp)
theorem reached_ok {s : Stg} (hs : Good s) {cs : List Cl} (h : GoodC cs) : f_reached [stD s, .tuple (cs.map clD)] = .ok (.str (sg (reaN s cs))) := by
  have hl := h.few
  have hl2 := ring_len s cs
  have hl3 := uniq_len ((ringN s cs).map (callAt cs))
  rw [List.length_map] at hl3
  refine Rets.ok (rets_of rfl (wp_seq (wp_evl (fn2_ok rfl rfl (check_calls_ok hs h)) (wp_seq (wp_ret (join_of (un_ok (d := .list (((ringN s cs).map (callAt cs)).map c1s)) ?_ (sset_c1 (by simp; omega))) (by omega)) rfl)))))
  rw [List.map_map]
  exact ev_comp_ok (xs := ringN s cs) (enc := fun n => .int ((n : Nat) : Int)) (seq_ok (fn2_ok rfl rfl (find_ringing_ok hs h)) (by rw [ringL_is, natI_map]; rfl)) (by omega) fun n hn => ⟨_, rfl, bi_ok (bi_ok rfl rfl rfl (call_idx (ring_lt hn))) rfl rfl (cl_one _)⟩
/-! #### the least time -/
theorem at_range {n i : Nat} {d : PyData} (h : ((List.range n).map fun k => PyData.int ((k : Nat) : Int))[i]? = some d) : i < n ∧ d = .int (i : Int) := by
  rw [List.getElem?_map] at h
  by_cases hi : i < n
  · rw [List.getElem?_range hi] at h
    cases h
    exact ⟨hi, rfl⟩
  · rw [List.getElem?_eq_none (by simpa using hi)] at h
    cases h
def agS (s : Stg) (a : Int) : Stg := { s with again := a }
theorem ag_good {s : Stg} (hs : Good s) {a : Int} (h0 : 0 ≤ a) (h1 : a ≤ 59) : Good (agS s a) := ⟨hs.few, hs.t, hs.up, hs.near, hs.shut, hs.dis, h0, h1⟩
def leastO (s : Stg) (cs : List Cl) (many : Int) : Option Nat := (List.range 60).find? fun a => decide (((silN (agS s (a : Nat)) cs).length : Int) ≤ many)
def natO : Option Nat → Option Int := Option.map fun n => ((n : Nat) : Int)
theorem least_again_ok {s : Stg} (hs : Good s) {cs : List Cl} (h : GoodC cs) {many : Int} (h0 : 0 ≤ many) (h1 : many ≤ 12) : f_least_again [stD s, .tuple (cs.map clD), .int many] = .ok (opD (natO (leastO s cs many))) := by
  refine Rets.ok (rets_of rfl ?_)
  refine wp_seq (wp_evl (fn2_ok rfl rfl (check_calls_ok hs h)) ?_)
  refine wp_seq (wp_no (nt_ok (fn3_ok rfl rfl rfl (is_int_int many 0 12))) (by rw [decide_eq_true h0, decide_eq_true h1]; rfl) (wp_nil ?_))
  have hr : evI (.rng1 (.bi .add (.glb "MAX_AGAIN" (.int 59)) (.cst (.int 1)))) [.da (stD s), .da (.tuple (cs.map clD)), .da (.int many), .no] = .ok ((List.range 60).map fun k => .int ((k : Nat) : Int)) := by
    rw [evI_rng1, bi_ok rfl rfl rfl rfl]
    exact rng_lit 60 (by decide)
  refine wp_seq (wp_for (fun i ρ => (∃ a, ρ = [.da (stD s), .da (.tuple (cs.map clD)), .da (.int many), a]) ∧ ∀ a : Nat, a < i → ¬ ((silN (agS s a) cs).length : Int) ≤ many) hr ⟨⟨_, rfl⟩, fun a h => by omega⟩ (fun i d ρ hd hI => ?_) fun ρ hI => ?_)
  · obtain ⟨⟨x, rfl⟩, hI⟩ := hI
    obtain ⟨hi, rfl⟩ := at_range hd
    refine ⟨_, rfl, ?_⟩
    have e1 : ev (.bi .add (.bi .sto (.var 0) (.cst (.int 3))) (.tup (.cons (.var 3) .nil))) [.da (stD s), .da (.tuple (cs.map clD)), .da (.int many), .da (.int (i : Nat))] = .ok (stD (agS s (i : Nat))) := bi_ok (bi_ok rfl rfl rfl (sto_tuple _ _)) rfl rfl rfl
    refine wp_seq (wp_if (k := decide (((silN (agS s (i : Nat)) cs).length : Int) ≤ many)) (bi_ok (un_ok (fn2_ok e1 rfl (find_silent_ok (ag_good hs (by omega) (by omega)) (by have := h.few; omega))) rfl) rfl rfl (by rw [List.length_map]; rfl)) (fun hk => wp_seq (wp_ret rfl ?_)) (fun hk => wp_nil (wp_nil ⟨⟨_, rfl⟩, fun a ha => ?_⟩)))
    · have : leastO s cs many = some i := by
        unfold leastO
        rw [List.find?_range_eq_some]
        refine ⟨hk, by simpa using hi, fun j hj => ?_⟩
        have := hI j hj
        simpa using this
      rw [this]; rfl
    · rcases Nat.lt_succ_iff_lt_or_eq.mp ha with q | rfl
      · exact hI a q
      · exact of_decide_eq_false hk
  · obtain ⟨⟨x, rfl⟩, hI⟩ := hI
    refine wp_seq (wp_ret rfl ?_)
    have : leastO s cs many = none := by
      unfold leastO
      rw [List.find?_eq_none]
      intro a ha
      have := hI a (by simpa using ha)
      simpa using this
    rw [this]; rfl
end QL
/-! ### calls that ring with other settings -/
namespace QL
open PySem QB
theorem atD_mem {cs : List Cl} {n : Nat} (h : n < cs.length) : cs.getD n ⟨0, 0⟩ ∈ cs := by
  rw [List.getD_eq_getElem?_getD, List.getElem?_eq_getElem h]
  exact List.getElem_mem h
theorem ring_iff {s : Stg} {cs : List Cl} (h : GoodC cs) {n : Nat} (hn : n < cs.length) : ringS s cs n (cs.getD n ⟨0, 0⟩) 0 = (decide (callAt cs n ∈ s.near) || ((!decide ((cs.getD n ⟨0, 0⟩).m / 60 ∈ hrs s.q) || cag cs n (cs.getD n ⟨0, 0⟩) s.again) && !decide (callAt cs n ∈ s.shut))) := by
  have := h.m _ (atD_mem hn)
  unfold ringS callAt
  rw [show ((cs.getD n ⟨0, 0⟩).m + 0) % 10080 / 60 = (cs.getD n ⟨0, 0⟩).m / 60 by omega]
theorem sil_iff {s : Stg} {cs : List Cl} (h : GoodC cs) {n : Nat} (hn : n < cs.length) : silB s cs n = (!decide (callAt cs n ∈ s.near) && ((decide ((cs.getD n ⟨0, 0⟩).m / 60 ∈ hrs s.q) && !cag cs n (cs.getD n ⟨0, 0⟩) s.again) || decide (callAt cs n ∈ s.shut))) := by
  rw [sil_ring s cs n h.m hn, ring_iff h hn]
  cases decide (callAt cs n ∈ s.near) <;> cases decide ((cs.getD n ⟨0, 0⟩).m / 60 ∈ hrs s.q) <;> cases cag cs n (cs.getD n ⟨0, 0⟩) s.again <;> cases decide (callAt cs n ∈ s.shut) <;> rfl
theorem fri_near (s : Stg) (c x : Nat) : decide (x ∈ (friS s c).near) = (decide (x ∈ s.near) || decide (x = c)) := by
  rw [show (friS s c).near = uniqN (s.near ++ [c]) from rfl]
  rw [Bool.eq_iff_iff]
  simp [mem_uniq]
theorem fri_shut (s : Stg) (c x : Nat) : decide (x ∈ (friS s c).shut) = (decide (x ∈ s.shut) && !decide (x = c)) := by
  rw [show (friS s c).shut = rem s.shut c from rfl]
  rw [Bool.eq_iff_iff]
  simp [mem_rem]
theorem blo_near (s : Stg) (c x : Nat) : decide (x ∈ (bloS s c).near) = (decide (x ∈ s.near) && !decide (x = c)) := by
  rw [show (bloS s c).near = rem s.near c from rfl]
  rw [Bool.eq_iff_iff]
  simp [mem_rem]
theorem blo_shut (s : Stg) (c x : Nat) : decide (x ∈ (bloS s c).shut) = (decide (x ∈ s.shut) || decide (x = c)) := by
  rw [show (bloS s c).shut = uniqN (s.shut ++ [c]) from rfl]
  rw [Bool.eq_iff_iff]
  simp [mem_uniq]
theorem fri_sil {s : Stg} {cs : List Cl} (h : GoodC cs) {c n : Nat} (hn : n < cs.length) : silB (friS s c) cs n = (silB s cs n && !decide (callAt cs n = c)) := by
  rw [sil_iff h hn, sil_iff h hn, fri_near, fri_shut]
  rw [show (friS s c).q = s.q from rfl, show (friS s c).again = s.again from rfl]
  cases decide (callAt cs n ∈ s.near) <;> cases decide ((cs.getD n ⟨0, 0⟩).m / 60 ∈ hrs s.q) <;> cases cag cs n (cs.getD n ⟨0, 0⟩) s.again <;> cases decide (callAt cs n ∈ s.shut) <;> cases decide (callAt cs n = c) <;> rfl
def friL (s : Stg) (l : List Nat) : Stg := l.foldl friS s
theorem friL_snoc (s : Stg) (l : List Nat) (c : Nat) : friL s (l ++ [c]) = friS (friL s l) c := by unfold friL; rw [List.foldl_append]; rfl
theorem friL_good {l : List Nat} : ∀ {s : Stg}, Good s → (∀ c ∈ l, 97 ≤ c ∧ c ≤ 102) → Good (friL s l) := by
  induction l with
  | nil => intro s hs _; exact hs
  | cons c l ih => intro s hs h; exact ih (fri_good hs (h c (by simp)).1 (h c (by simp)).2) fun x hx => h x (List.mem_cons_of_mem _ hx)
theorem friL_sil {cs : List Cl} (h : GoodC cs) {n : Nat} (hn : n < cs.length) {l : List Nat} : ∀ {s : Stg}, silB (friL s l) cs n = (silB s cs n && !decide (callAt cs n ∈ l)) := by
  induction l with
  | nil => intro s; simp [friL]
  | cons c l ih =>
    intro s
    have := ih (s := friS s c)
    rw [show friL s (c :: l) = friL (friS s c) l from rfl, this, fri_sil h hn]
    cases silB s cs n <;> by_cases q1 : callAt cs n = c <;> by_cases q2 : callAt cs n ∈ l <;> simp [q1, q2] <;> simp_all
theorem mem_silN {s : Stg} {cs : List Cl} {n : Nat} : n ∈ silN s cs ↔ n < cs.length ∧ silB s cs n = true := by unfold silN; rw [List.mem_filter, List.mem_range]
theorem mem_ringN {s : Stg} {cs : List Cl} {n : Nat} : n ∈ ringN s cs ↔ n < cs.length ∧ ringS s cs n (cs.getD n ⟨0, 0⟩) 0 = true := by unfold ringN; rw [List.mem_filter, List.mem_range]
theorem mem_fewL {s : Stg} {cs : List Cl} {c : Nat} : c ∈ fewL s cs ↔ ∃ n, n < cs.length ∧ silB s cs n = true ∧ callAt cs n = c := by
  unfold fewL
  rw [mem_uniq, List.mem_map]
  constructor
  · rintro ⟨n, hn, e⟩
    obtain ⟨h1, h2⟩ := mem_silN.mp hn
    exact ⟨n, h1, h2, e⟩
  · rintro ⟨n, h1, h2, e⟩
    exact ⟨n, mem_silN.mpr ⟨h1, h2⟩, e⟩
theorem mem_reaN {s : Stg} {cs : List Cl} {c : Nat} : c ∈ reaN s cs ↔ ∃ n, n < cs.length ∧ ringS s cs n (cs.getD n ⟨0, 0⟩) 0 = true ∧ callAt cs n = c := by
  unfold reaN
  rw [mem_uniq, List.mem_map]
  constructor
  · rintro ⟨n, hn, e⟩
    obtain ⟨h1, h2⟩ := mem_ringN.mp hn
    exact ⟨n, h1, h2, e⟩
  · rintro ⟨n, h1, h2, e⟩
    exact ⟨n, mem_ringN.mpr ⟨h1, h2⟩, e⟩
theorem callAt_ok {cs : List Cl} (h : GoodC cs) {n : Nat} (hn : n < cs.length) : 97 ≤ callAt cs n ∧ callAt cs n ≤ 102 := h.c _ (atD_mem hn)
theorem few_row {s : Stg} {cs : List Cl} (h : GoodC cs) : Row 97 102 (fewL s cs) := ⟨uniq_lt _, fun c hc => by
  obtain ⟨n, h1, _, rfl⟩ := mem_fewL.mp hc
  exact callAt_ok h h1⟩
theorem few_fri {s : Stg} {cs : List Cl} (h : GoodC cs) (c : Nat) : fewL (friS s c) cs = rem (fewL s cs) c := lt_extN (uniq_lt _) ((uniq_lt _).filter _) fun x => by
  rw [mem_fewL, mem_rem, mem_fewL]
  constructor
  · rintro ⟨n, h1, h2, rfl⟩
    rw [fri_sil h h1, Bool.and_eq_true] at h2
    exact ⟨⟨n, h1, h2.1, rfl⟩, by simpa using h2.2⟩
  · rintro ⟨⟨n, h1, h2, rfl⟩, hx⟩
    exact ⟨n, h1, by rw [fri_sil h h1, h2]; simpa using hx, rfl⟩
theorem all_friends {s : Stg} {cs : List Cl} (h : GoodC cs) : silN (friL s (fewL s cs)) cs = [] := by
  rw [List.eq_nil_iff_forall_not_mem]
  intro n hn
  obtain ⟨h1, h2⟩ := mem_silN.mp hn
  rw [friL_sil h h1, Bool.and_eq_true] at h2
  have : callAt cs n ∈ fewL s cs := mem_fewL.mpr ⟨n, h1, h2.1, rfl⟩
  simp [this] at h2
theorem fewer_friends {s : Stg} {cs : List Cl} (h : GoodC cs) {c : Nat} (hc : c ∈ fewL s cs) : silN (friL s (rem (fewL s cs) c)) cs ≠ [] := by
  obtain ⟨n, h1, h2, rfl⟩ := mem_fewL.mp hc
  intro z
  have : n ∈ silN (friL s (rem (fewL s cs) (callAt cs n))) cs := mem_silN.mpr ⟨h1, by
    rw [friL_sil h h1, h2, Bool.true_and]
    have : callAt cs n ∉ rem (fewL s cs) (callAt cs n) := fun q => (mem_rem.mp q).2 rfl
    simp [this]⟩
  rw [z] at this
  cases this
theorem few_nil {s : Stg} {cs : List Cl} : fewL s cs = [] ↔ silN s cs = [] := by
  constructor
  · intro h
    rw [List.eq_nil_iff_forall_not_mem]
    intro n hn
    obtain ⟨h1, h2⟩ := mem_silN.mp hn
    have : callAt cs n ∈ fewL s cs := mem_fewL.mpr ⟨n, h1, h2, rfl⟩
    rw [h] at this
    cases this
  · intro h
    rw [List.eq_nil_iff_forall_not_mem]
    intro c hc
    obtain ⟨n, h1, h2, _⟩ := mem_fewL.mp hc
    have : n ∈ silN s cs := mem_silN.mpr ⟨h1, h2⟩
    rw [h] at this
    cases this
theorem few_near {s : Stg} {cs : List Cl} (h : GoodC cs) {c : Nat} (hc : c ∈ fewL s cs) : c ∉ s.near := by
  obtain ⟨n, h1, h2, rfl⟩ := mem_fewL.mp hc
  rw [sil_iff h h1, Bool.and_eq_true] at h2
  simpa using h2.1
/-! #### friends and blocked callers exchanged -/
theorem stg_ext {s t : Stg} (h1 : s.q = t.q) (h2 : s.near = t.near) (h3 : s.shut = t.shut) (h4 : s.again = t.again) : s = t := by
  cases s; cases t; simp_all
theorem fri_blo {s : Stg} (hs : Good s) (c : Nat) : friS (bloS s c) c = friS s c := stg_ext rfl (lt_extN (uniq_lt _) (uniq_lt _) fun x => by
    show x ∈ uniqN (rem s.near c ++ [c]) ↔ x ∈ uniqN (s.near ++ [c])
    rw [mem_uniq, mem_uniq, List.mem_append, List.mem_append, mem_rem, List.mem_singleton]
    by_cases q : x = c <;> simp [q]) (lt_extN ((uniq_lt _).filter _) (hs.shut.1.filter _) fun x => by
    show x ∈ rem (uniqN (s.shut ++ [c])) c ↔ x ∈ rem s.shut c
    rw [mem_rem, mem_rem, mem_uniq, List.mem_append, List.mem_singleton]
    by_cases q : x = c <;> simp [q]) rfl
theorem blo_fri {s : Stg} (hs : Good s) (c : Nat) : bloS (friS s c) c = bloS s c := stg_ext rfl (lt_extN ((uniq_lt _).filter _) (hs.near.1.filter _) fun x => by
    show x ∈ rem (uniqN (s.near ++ [c])) c ↔ x ∈ rem s.near c
    rw [mem_rem, mem_rem, mem_uniq, List.mem_append, List.mem_singleton]
    by_cases q : x = c <;> simp [q]) (lt_extN (uniq_lt _) (uniq_lt _) fun x => by
    show x ∈ uniqN (rem s.shut c ++ [c]) ↔ x ∈ uniqN (s.shut ++ [c])
    rw [mem_uniq, mem_uniq, List.mem_append, List.mem_append, mem_rem, List.mem_singleton]
    by_cases q : x = c <;> simp [q]) rfl
theorem fri_fri {s : Stg} (hs : Good s) (c : Nat) : friS (friS s c) c = friS s c := stg_ext rfl (lt_extN (uniq_lt _) (uniq_lt _) fun x => by
    show x ∈ uniqN (uniqN (s.near ++ [c]) ++ [c]) ↔ x ∈ uniqN (s.near ++ [c])
    rw [mem_uniq, List.mem_append, mem_uniq, List.mem_append, List.mem_singleton]
    by_cases q : x = c <;> simp [q]) (lt_extN ((hs.shut.1.filter _).filter _) (hs.shut.1.filter _) fun x => by
    show x ∈ rem (rem s.shut c) c ↔ x ∈ rem s.shut c
    rw [mem_rem, mem_rem]
    by_cases q : x = c <;> simp [q]) rfl
/-- the same but for one caller, who is a friend -/
theorem more_one {s t : Stg} {c : Nat} (hq : s.q = t.q) (ha : s.again = t.again) (hc : c ∈ s.near) (hn : ∀ x, x ≠ c → (x ∈ s.near ↔ x ∈ t.near)) (hh : ∀ x, x ≠ c → (x ∈ s.shut ↔ x ∈ t.shut)) : moreB s t = true := by
  unfold moreB
  rw [List.all_eq_true]
  intro x _
  unfold moreC
  by_cases q : x = c
  · subst q
    have : alwB s x = true := by unfold alwB; simp [hc]
    rw [this]; rfl
  · have e1 : alwB s x = alwB t x := by unfold alwB; rw [hq, decide_eq_decide.mpr (hn x q), decide_eq_decide.mpr (hh x q)]
    have e2 : nevB s x = nevB t x := by unfold nevB; rw [hq, ha, decide_eq_decide.mpr (hh x q)]
    have e3 : ((hrs s.q).any fun h => !decide (h ∈ hrs t.q)) = false := by
      rw [hq, List.any_eq_false]
      intro h hh
      simp [hh]
    have e4 : decide (s.again < t.again) = false := by rw [ha]; simp
    rw [e1, e2, e3, e4]
    cases alwB t x <;> cases nevB t x <;> rfl
/-! #### times for a second call -/
theorem cag_mono {cs : List Cl} {n : Nat} {k : Cl} {a b : Int} (h : a ≤ b) (hc : cag cs n k a = true) : cag cs n k b = true := by
  unfold cag at hc ⊢
  rw [List.any_eq_true] at hc ⊢
  obtain ⟨x, h1, h2⟩ := hc
  rw [Bool.and_eq_true, decide_eq_true_eq, decide_eq_true_eq] at h2
  exact ⟨x, h1, by rw [Bool.and_eq_true, decide_eq_true_eq, decide_eq_true_eq]; exact ⟨h2.1, by omega⟩⟩
theorem ag_sil {s : Stg} {cs : List Cl} (h : GoodC cs) {a b : Int} (hab : a ≤ b) {n : Nat} (hn : n < cs.length) (hb : silB (agS s b) cs n = true) : silB (agS s a) cs n = true := by
  rw [sil_iff h hn] at hb ⊢
  rw [show (agS s b).q = s.q from rfl, show (agS s b).near = s.near from rfl, show (agS s b).shut = s.shut from rfl, show (agS s b).again = b from rfl] at hb
  rw [show (agS s a).q = s.q from rfl, show (agS s a).near = s.near from rfl, show (agS s a).shut = s.shut from rfl, show (agS s a).again = a from rfl]
  cases q : cag cs n (cs.getD n ⟨0, 0⟩) a with
  | false => cases q' : cag cs n (cs.getD n ⟨0, 0⟩) b <;> rw [q'] at hb <;> revert hb <;> cases decide (callAt cs n ∈ s.near) <;> cases decide ((cs.getD n ⟨0, 0⟩).m / 60 ∈ hrs s.q) <;> cases decide (callAt cs n ∈ s.shut) <;> simp
  | true => rw [cag_mono hab q] at hb; exact hb
theorem filter_len {α : Type} {p q : α → Bool} {l : List α} (h : ∀ x ∈ l, p x = true → q x = true) : (l.filter p).length ≤ (l.filter q).length := by
  induction l with
  | nil => simp
  | cons a l ih =>
    have ih := ih fun x hx => h x (List.mem_cons_of_mem _ hx)
    have := h a (by simp)
    rw [List.filter_cons, List.filter_cons]
    cases hp : p a with
    | false => cases hq : q a <;> simp <;> omega
    | true => rw [this hp]; simpa using ih
theorem ag_len {s : Stg} {cs : List Cl} (h : GoodC cs) {a b : Int} (hab : a ≤ b) : (silN (agS s b) cs).length ≤ (silN (agS s a) cs).length := filter_len fun n hn => ag_sil h hab (List.mem_range.mp hn)
theorem ag_self (s : Stg) : agS s s.again = s := rfl
theorem least_some {s : Stg} {cs : List Cl} {many : Int} {a : Nat} (h : leastO s cs many = some a) : a < 60 ∧ ((silN (agS s (a : Int)) cs).length : Int) ≤ many ∧ ∀ j : Nat, j < a → ¬ ((silN (agS s (j : Int)) cs).length : Int) ≤ many := by
  unfold leastO at h
  rw [List.find?_range_eq_some] at h
  obtain ⟨h1, h2, h3⟩ := h
  refine ⟨by simpa using h2, of_decide_eq_true h1, fun j hj => ?_⟩
  have := h3 j hj
  simpa using this
theorem least_ex {s : Stg} {cs : List Cl} {many : Int} {b : Nat} (hb : b < 60) (h : ((silN (agS s (b : Int)) cs).length : Int) ≤ many) : ∃ a, leastO s cs many = some a ∧ a ≤ b := by
  cases q : leastO s cs many with
  | none =>
    unfold leastO at q
    rw [List.find?_eq_none] at q
    have := q b (by simpa using hb)
    simp [h] at this
  | some a =>
    refine ⟨a, rfl, ?_⟩
    have := (least_some q).2.2
    by_cases z : a ≤ b
    · exact z
    · exact absurd h (this b (by omega))
end QL
namespace L21
open PySem L2 QB QL
def topS (i : Nat) : Stmt := PySem.Challenge.pw_quietbells_k21_whole_changing.main.body.getD i (.Pass ⟨0, 0, 0, 0⟩)
/-! #### is_int -/
theorem s_is_int : FnScope N_is_int ["value", "least", "most"] (defScope (topS 18)) := ⟨rfl, rfl, rfl, by decide +kernel, rfl, by decide +kernel, by decide +kernel⟩
theorem k_is_int : chkSs ⟨N_is_int, defScope (topS 18), fun _ => true⟩ b_is_int (defBody (topS 18)) = true := by decide +kernel
/-! #### rises -/
theorem s_rises : FnScope N_rises ["some"] (defScope (topS 19)) := ⟨rfl, rfl, rfl, by decide +kernel, rfl, by decide +kernel, by decide +kernel⟩
theorem k_rises : chkSs ⟨N_rises, defScope (topS 19), fun _ => true⟩ b_rises (defBody (topS 19)) = true := by decide +kernel
/-! #### is_row -/
theorem s_is_row : FnScope N_is_row ["value", "signs"] (defScope (topS 20)) := ⟨rfl, rfl, rfl, by decide +kernel, rfl, by decide +kernel, by decide +kernel⟩
theorem k_is_row : chkSs ⟨N_is_row, defScope (topS 20), fun _ => true⟩ b_is_row (defBody (topS 20)) = true := by decide +kernel
/-! #### is_time -/
theorem s_is_time : FnScope N_is_time ["value"] (defScope (topS 21)) := ⟨rfl, rfl, rfl, by decide +kernel, rfl, by decide +kernel, by decide +kernel⟩
theorem k_is_time : chkSs ⟨N_is_time, defScope (topS 21), fun _ => true⟩ b_is_time (defBody (topS 21)) = true := by decide +kernel
/-! #### is_settings -/
theorem s_is_settings : FnScope N_is_settings ["candidate"] (defScope (topS 22)) := ⟨rfl, rfl, rfl, by decide +kernel, rfl, by decide +kernel, by decide +kernel⟩
theorem k_is_settings : chkSs ⟨N_is_settings, defScope (topS 22), fun _ => true⟩ b_is_settings (defBody (topS 22)) = true := by decide +kernel
/-! #### is_caller -/
theorem s_is_caller : FnScope N_is_caller ["value"] (defScope (topS 23)) := ⟨rfl, rfl, rfl, by decide +kernel, rfl, by decide +kernel, by decide +kernel⟩
theorem k_is_caller : chkSs ⟨N_is_caller, defScope (topS 23), fun _ => true⟩ b_is_caller (defBody (topS 23)) = true := by decide +kernel
/-! #### is_call -/
theorem s_is_call : FnScope N_is_call ["value"] (defScope (topS 24)) := ⟨rfl, rfl, rfl, by decide +kernel, rfl, by decide +kernel, by decide +kernel⟩
theorem k_is_call : chkSs ⟨N_is_call, defScope (topS 24), fun _ => true⟩ b_is_call (defBody (topS 24)) = true := by decide +kernel
/-! #### are_calls -/
theorem s_are_calls : FnScope N_are_calls ["candidate"] (defScope (topS 25)) := ⟨rfl, rfl, rfl, by decide +kernel, rfl, by decide +kernel, by decide +kernel⟩
theorem k_are_calls : chkSs ⟨N_are_calls, defScope (topS 25), fun _ => true⟩ b_are_calls (defBody (topS 25)) = true := by decide +kernel
/-! #### check_settings -/
theorem s_check_settings : FnScope N_check_settings ["value"] (defScope (topS 26)) := ⟨rfl, rfl, rfl, by decide +kernel, rfl, by decide +kernel, by decide +kernel⟩
theorem k_check_settings : chkSs ⟨N_check_settings, defScope (topS 26), fun _ => true⟩ b_check_settings (defBody (topS 26)) = true := by decide +kernel
/-! #### check_caller -/
theorem s_check_caller : FnScope N_check_caller ["value"] (defScope (topS 27)) := ⟨rfl, rfl, rfl, by decide +kernel, rfl, by decide +kernel, by decide +kernel⟩
theorem k_check_caller : chkSs ⟨N_check_caller, defScope (topS 27), fun _ => true⟩ b_check_caller (defBody (topS 27)) = true := by decide +kernel
/-! #### check_calls -/
theorem s_check_calls : FnScope N_check_calls ["settings", "calls"] (defScope (topS 28)) := ⟨rfl, rfl, rfl, by decide +kernel, rfl, by decide +kernel, by decide +kernel⟩
theorem k_check_calls : chkSs ⟨N_check_calls, defScope (topS 28), fun _ => true⟩ b_check_calls (defBody (topS 28)) = true := by decide +kernel
/-! #### hours_of -/
theorem s_hours_of : FnScope N_hours_of ["time"] (defScope (topS 29)) := ⟨rfl, rfl, rfl, by decide +kernel, rfl, by decide +kernel, by decide +kernel⟩
theorem k_hours_of : chkSs ⟨N_hours_of, defScope (topS 29), fun _ => true⟩ b_hours_of (defBody (topS 29)) = true := by decide +kernel
/-! #### find_hours -/
theorem s_find_hours : FnScope N_find_hours ["quiet"] (defScope (topS 30)) := ⟨rfl, rfl, rfl, by decide +kernel, rfl, by decide +kernel, by decide +kernel⟩
theorem k_find_hours : chkSs ⟨N_find_hours, defScope (topS 30), fun _ => true⟩ b_find_hours (defBody (topS 30)) = true := by decide +kernel
/-! #### find_kind -/
theorem s_find_kind : FnScope N_find_kind ["settings", "caller"] (defScope (topS 31)) := ⟨rfl, rfl, rfl, by decide +kernel, rfl, by decide +kernel, by decide +kernel⟩
theorem k_find_kind : chkSs ⟨N_find_kind, defScope (topS 31), fun _ => true⟩ b_find_kind (defBody (topS 31)) = true := by decide +kernel
/-! #### kind_of -/
theorem s_kind_of : FnScope N_kind_of ["settings", "caller"] (defScope (topS 32)) := ⟨rfl, rfl, rfl, by decide +kernel, rfl, by decide +kernel, by decide +kernel⟩
theorem k_kind_of : chkSs ⟨N_kind_of, defScope (topS 32), fun _ => true⟩ b_kind_of (defBody (topS 32)) = true := by decide +kernel
/-! #### comes_again -/
theorem s_comes_again : FnScope N_comes_again ["calls", "number", "again"] (defScope (topS 37)) := ⟨rfl, rfl, rfl, by decide +kernel, rfl, by decide +kernel, by decide +kernel⟩
theorem k_comes_again : chkSs ⟨N_comes_again, defScope (topS 37), fun _ => true⟩ b_comes_again (defBody (topS 37)) = true := by decide +kernel
/-! #### find_reasons -/
theorem s_find_reasons : FnScope N_find_reasons ["settings", "calls"] (defScope (topS 38)) := ⟨rfl, rfl, rfl, by decide +kernel, rfl, by decide +kernel, by decide +kernel⟩
theorem k_find_reasons : chkSs ⟨N_find_reasons, defScope (topS 38), fun _ => true⟩ b_find_reasons (defBody (topS 38)) = true := by decide +kernel
/-! #### find_silent -/
theorem s_find_silent : FnScope N_find_silent ["settings", "calls"] (defScope (topS 39)) := ⟨rfl, rfl, rfl, by decide +kernel, rfl, by decide +kernel, by decide +kernel⟩
theorem k_find_silent : chkSs ⟨N_find_silent, defScope (topS 39), fun _ => true⟩ b_find_silent (defBody (topS 39)) = true := by decide +kernel
/-! #### silent -/
theorem s_silent : FnScope N_silent ["settings", "calls"] (defScope (topS 40)) := ⟨rfl, rfl, rfl, by decide +kernel, rfl, by decide +kernel, by decide +kernel⟩
theorem k_silent : chkSs ⟨N_silent, defScope (topS 40), fun _ => true⟩ b_silent (defBody (topS 40)) = true := by decide +kernel
/-! #### find_ringing -/
theorem s_find_ringing : FnScope N_find_ringing ["settings", "calls"] (defScope (topS 41)) := ⟨rfl, rfl, rfl, by decide +kernel, rfl, by decide +kernel, by decide +kernel⟩
theorem k_find_ringing : chkSs ⟨N_find_ringing, defScope (topS 41), fun _ => true⟩ b_find_ringing (defBody (topS 41)) = true := by decide +kernel
/-! #### ringing -/
theorem s_ringing : FnScope N_ringing ["settings", "calls"] (defScope (topS 42)) := ⟨rfl, rfl, rfl, by decide +kernel, rfl, by decide +kernel, by decide +kernel⟩
theorem k_ringing : chkSs ⟨N_ringing, defScope (topS 42), fun _ => true⟩ b_ringing (defBody (topS 42)) = true := by decide +kernel
/-! #### reached -/
theorem s_reached : FnScope N_reached ["settings", "calls"] (defScope (topS 43)) := ⟨rfl, rfl, rfl, by decide +kernel, rfl, by decide +kernel, by decide +kernel⟩
theorem k_reached : chkSs ⟨N_reached, defScope (topS 43), fun _ => true⟩ b_reached (defBody (topS 43)) = true := by decide +kernel
/-! #### add -/
theorem s_add : FnScope N_add ["callers", "caller"] (defScope (topS 45)) := ⟨rfl, rfl, rfl, by decide +kernel, rfl, by decide +kernel, by decide +kernel⟩
theorem k_add : chkSs ⟨N_add, defScope (topS 45), fun _ => true⟩ b_add (defBody (topS 45)) = true := by decide +kernel
/-! #### with_friend -/
theorem s_with_friend : FnScope N_with_friend ["settings", "caller"] (defScope (topS 46)) := ⟨rfl, rfl, rfl, by decide +kernel, rfl, by decide +kernel, by decide +kernel⟩
def p_with_friend : Pl := (.nxt (.nxt (.nxt (.nxt .std))))
theorem k_with_friend : chkKS ["with_friend", "with_blocked"] ⟨N_with_friend, defScope (topS 46), fun _ => true⟩ p_with_friend 1 b_with_friend (defBody (topS 46)) = true := by decide +kernel
theorem l_with_friend : loopsOk p_with_friend b_with_friend = true := rfl
/-! #### with_blocked -/
theorem s_with_blocked : FnScope N_with_blocked ["settings", "caller"] (defScope (topS 47)) := ⟨rfl, rfl, rfl, by decide +kernel, rfl, by decide +kernel, by decide +kernel⟩
def p_with_blocked : Pl := (.nxt (.nxt (.nxt (.nxt .std))))
theorem k_with_blocked : chkKS ["with_friend", "with_blocked"] ⟨N_with_blocked, defScope (topS 47), fun _ => true⟩ p_with_blocked 1 b_with_blocked (defBody (topS 47)) = true := by decide +kernel
theorem l_with_blocked : loopsOk p_with_blocked b_with_blocked = true := rfl
/-! #### fewest_friends -/
theorem s_fewest_friends : FnScope N_fewest_friends ["settings", "calls"] (defScope (topS 48)) := ⟨rfl, rfl, rfl, by decide +kernel, rfl, by decide +kernel, by decide +kernel⟩
theorem k_fewest_friends : chkSs ⟨N_fewest_friends, defScope (topS 48), fun _ => true⟩ b_fewest_friends (defBody (topS 48)) = true := by decide +kernel
/-! #### least_again -/
theorem s_least_again : FnScope N_least_again ["settings", "calls", "many"] (defScope (topS 49)) := ⟨rfl, rfl, rfl, by decide +kernel, rfl, by decide +kernel, by decide +kernel⟩
theorem k_least_again : chkSs ⟨N_least_again, defScope (topS 49), fun _ => true⟩ b_least_again (defBody (topS 49)) = true := by decide +kernel
/-! #### check_two -/
theorem s_check_two : FnScope N_check_two ["one", "other"] (defScope (topS 54)) := ⟨rfl, rfl, rfl, by decide +kernel, rfl, by decide +kernel, by decide +kernel⟩
theorem k_check_two : chkSs ⟨N_check_two, defScope (topS 54), fun _ => true⟩ b_check_two (defBody (topS 54)) = true := by decide +kernel
/-! #### find_effect -/
theorem s_find_effect : FnScope N_find_effect ["settings", "hours", "caller"] (defScope (topS 55)) := ⟨rfl, rfl, rfl, by decide +kernel, rfl, by decide +kernel, by decide +kernel⟩
theorem k_find_effect : chkSs ⟨N_find_effect, defScope (topS 55), fun _ => true⟩ b_find_effect (defBody (topS 55)) = true := by decide +kernel
/-! #### rings_more -/
theorem s_rings_more : FnScope N_rings_more ["one", "other"] (defScope (topS 56)) := ⟨rfl, rfl, rfl, by decide +kernel, rfl, by decide +kernel, by decide +kernel⟩
theorem k_rings_more : chkSs ⟨N_rings_more, defScope (topS 56), fun _ => true⟩ b_rings_more (defBody (topS 56)) = true := by decide +kernel
/-! #### _law_drawn -/
theorem s__law_drawn : FnScope N__law_drawn ["script", "k", "many"] (defScope (topS 58)) := ⟨rfl, rfl, rfl, by decide +kernel, rfl, by decide +kernel, by decide +kernel⟩
theorem k__law_drawn : chkSs ⟨N__law_drawn, defScope (topS 58), fun _ => true⟩ b__law_drawn (defBody (topS 58)) = true := by decide +kernel
/-! #### _law_settings -/
theorem s__law_settings : FnScope N__law_settings ["script", "at"] (defScope (topS 59)) := ⟨rfl, rfl, rfl, by decide +kernel, rfl, by decide +kernel, by decide +kernel⟩
theorem k__law_settings : chkSs ⟨N__law_settings, defScope (topS 59), fun _ => true⟩ b__law_settings (defBody (topS 59)) = true := by decide +kernel
/-! #### _law_calls -/
theorem s__law_calls : FnScope N__law_calls ["script", "at", "settings", "most"] (defScope (topS 60)) := ⟨rfl, rfl, rfl, by decide +kernel, rfl, by decide +kernel, by decide +kernel⟩
theorem k__law_calls : chkSs ⟨N__law_calls, defScope (topS 60), fun _ => true⟩ b__law_calls (defBody (topS 60)) = true := by decide +kernel
/-! #### _law_times -/
def N__law_times : List Str := ["settings", "calls", "quiet", "friends", "blocked", "again", "before", "many", "least", "number"]
def b__law_times : S :=
 (.seq (.asg (.tp [(.nm 2), (.nm 3), (.nm 4), (.nm 5)]) (.var 0))
 (.seq (.asg (.nm 6) (.cst .none))
 (.seq (.forr (.rng1 (.bi .add (.un .len (.var 1)) (.cst (.int 1)))) (.nm 7)
 (.seq (.asg (.nm 8) (.fn "least_again" f_least_again (.cons (.var 0) (.cons (.var 1) (.cons (.var 7) .nil)))))
 (.seq (.iff (.an (.bi .gt (.var 7) (.cst (.int 0))) (.an (.bi .isnt (.var 6) (.cst .none)) (.oo (.bi .is (.var 8) (.cst .none)) (.bi .gt (.var 8) (.var 6)))))
 (.seq (.ret (.cst (.bool false)))
 .nil)
 .nil)
 (.seq (.iff (.an (.bi .isnt (.var 8) (.cst .none)) (.bi .gt (.un .len (.fn "silent" f_silent (.cons (.tup (.cons (.var 2) (.cons (.var 3) (.cons (.var 4) (.cons (.var 8) .nil))))) (.cons (.var 1) .nil)))) (.var 7)))
 (.seq (.ret (.cst (.bool false)))
 .nil)
 .nil)
 (.seq (.iff (.an (.bi .isnt (.var 8) (.cst .none)) (.bi .gt (.var 8) (.cst (.int 0))))
 (.seq (.iff (.bi .le (.un .len (.fn "silent" f_silent (.cons (.tup (.cons (.var 2) (.cons (.var 3) (.cons (.var 4) (.cons (.bi .sub (.var 8) (.cst (.int 1))) .nil))))) (.cons (.var 1) .nil)))) (.var 7))
 (.seq (.ret (.cst (.bool false)))
 .nil)
 .nil)
 .nil)
 .nil)
 (.seq (.iff (.bi .ne (.an (.bi .isnt (.var 8) (.cst .none)) (.bi .le (.var 8) (.var 5))) (.bi .le (.un .len (.fn "silent" f_silent (.cons (.var 0) (.cons (.var 1) .nil)))) (.var 7)))
 (.seq (.ret (.cst (.bool false)))
 .nil)
 .nil)
 (.seq (.asg (.nm 6) (.var 8))
 .nil)))))))
 (.seq (.iff (.bi .ne (.var 6) (.cst (.int 0)))
 (.seq (.ret (.cst (.bool false)))
 .nil)
 .nil)
 (.seq (.ret (.bi .eq (.fn "ringing" f_ringing (.cons (.var 0) (.cons (.var 1) .nil))) (.compT (.rng1 (.un .len (.var 1))) (.nm 9) (.bi .nin (.var 9) (.fn "silent" f_silent (.cons (.var 0) (.cons (.var 1) .nil)))) (.var 9) [("number", 9)])))
 .nil)))))
def f__law_times : List PyData → R PyData := run 2 10 b__law_times
theorem s__law_times : FnScope N__law_times ["settings", "calls"] (defScope (topS 61)) := ⟨rfl, rfl, rfl, by decide +kernel, rfl, by decide +kernel, by decide +kernel⟩
theorem k__law_times : chkSs ⟨N__law_times, defScope (topS 61), fun _ => true⟩ b__law_times (defBody (topS 61)) = true := by decide +kernel
/-! #### _law_kinds -/
def N__law_kinds : List Str := ["settings", "calls", "caller", "one", "other", "call"]
def b__law_kinds : S :=
 (.seq (.forr (.seq (.cst (.str "abcdef"))) (.nm 2)
 (.seq (.par [3, 4] (.cons (.fn "with_friend" f_with_friend (.cons (.var 0) (.cons (.var 2) .nil))) (.cons (.fn "with_blocked" f_with_blocked (.cons (.var 0) (.cons (.var 2) .nil))) .nil)))
 (.seq (.iff (.oo (.bi .ne (.fn "kind_of" f_kind_of (.cons (.var 3) (.cons (.var 2) .nil))) (.cst (.str "friend"))) (.bi .ne (.fn "kind_of" f_kind_of (.cons (.var 4) (.cons (.var 2) .nil))) (.cst (.str "blocked"))))
 (.seq (.ret (.cst (.bool false)))
 .nil)
 .nil)
 (.seq (.iff (.bi .ne (.fn "with_friend" f_with_friend (.cons (.var 4) (.cons (.var 2) .nil))) (.var 3))
 (.seq (.ret (.cst (.bool false)))
 .nil)
 .nil)
 (.seq (.iff (.oo (.bi .ne (.fn "with_blocked" f_with_blocked (.cons (.var 3) (.cons (.var 2) .nil))) (.var 4)) (.bi .ne (.fn "with_friend" f_with_friend (.cons (.var 3) (.cons (.var 2) .nil))) (.var 3)))
 (.seq (.ret (.cst (.bool false)))
 .nil)
 .nil)
 (.seq (.iff (.bi .isnt (.fn "is_settings" f_is_settings (.cons (.var 4) .nil)) (.cst (.bool true)))
 (.seq (.ret (.cst (.bool false)))
 .nil)
 .nil)
 (.seq (.iff (.oo (.bi .isnt (.fn "rings_more" f_rings_more (.cons (.var 3) (.cons (.var 4) .nil))) (.cst (.bool true))) (.bi .isnt (.fn "rings_more" f_rings_more (.cons (.var 3) (.cons (.var 0) .nil))) (.cst (.bool true))))
 (.seq (.ret (.cst (.bool false)))
 .nil)
 .nil)
 (.seq (.iff (.bi .inn (.var 2) (.fn "reached" f_reached (.cons (.var 4) (.cons (.var 1) .nil))))
 (.seq (.ret (.cst (.bool false)))
 .nil)
 .nil)
 (.seq (.iff (.an (.bi .inn (.var 2) (.comp (.seq (.var 1)) (.nm 5) (.bi .idx (.var 5) (.cst (.int 1))) [("call", 5)])) (.bi .nin (.var 2) (.fn "reached" f_reached (.cons (.var 3) (.cons (.var 1) .nil)))))
 (.seq (.ret (.cst (.bool false)))
 .nil)
 .nil)
 .nil)))))))))
 (.seq (.ret (.cst (.bool true)))
 .nil))
def f__law_kinds : List PyData → R PyData := run 2 6 b__law_kinds
theorem s__law_kinds : FnScope N__law_kinds ["settings", "calls"] (defScope (topS 62)) := ⟨rfl, rfl, rfl, by decide +kernel, rfl, by decide +kernel, by decide +kernel⟩
def p__law_kinds : OPl := (.forC (.nxt (.nxt (.nxt (.nxt .std)))) .std)
theorem k__law_kinds : chkO ["with_friend", "with_blocked"] ⟨N__law_kinds, defScope (topS 62), fun _ => true⟩ false p__law_kinds b__law_kinds (defBody (topS 62)) = true := by decide +kernel
/-! #### law -/
def N_law : List Str := ["script", "settings", "quiet", "friends", "blocked", "again", "calls", "needed", "changed", "caller", "rest", "other"]
def b_law : S :=
 (.seq (.asg (.nm 1) (.fn "_law_settings" f__law_settings (.cons (.var 0) (.cons (.cst (.int 10)) .nil))))
 (.seq (.asg (.tp [(.nm 2), (.nm 3), (.nm 4), (.nm 5)]) (.var 1))
 (.seq (.asg (.nm 6) (.fn "_law_calls" f__law_calls (.cons (.var 0) (.cons (.cst (.int 80)) (.cons (.var 1) (.cons (.cst (.int 9)) .nil))))))
 (.seq (.par [7, 8] (.cons (.fn "fewest_friends" f_fewest_friends (.cons (.var 1) (.cons (.var 6) .nil))) (.cons (.var 1) .nil)))
 (.seq (.forr (.seq (.bi .add (.var 7) (.cst (.str "")))) (.nm 9)
 (.seq (.asg (.nm 8) (.fn "with_friend" f_with_friend (.cons (.var 8) (.cons (.var 9) .nil))))
 .nil))
 (.seq (.iff (.bi .ne (.fn "silent" f_silent (.cons (.var 8) (.cons (.var 6) .nil))) (.lst .nil))
 (.seq (.ret (.cst (.bool false)))
 .nil)
 .nil)
 (.seq (.iff (.bi .ne (.bi .eq (.var 7) (.cst (.str ""))) (.bi .eq (.fn "silent" f_silent (.cons (.var 1) (.cons (.var 6) .nil))) (.lst .nil)))
 (.seq (.ret (.cst (.bool false)))
 .nil)
 .nil)
 (.seq (.iff (.bi .isnt (.fn "is_settings" f_is_settings (.cons (.var 8) .nil)) (.cst (.bool true)))
 (.seq (.ret (.cst (.bool false)))
 .nil)
 .nil)
 (.seq (.forr (.seq (.bi .add (.var 7) (.cst (.str "")))) (.nm 9)
 (.seq (.iff (.bi .eq (.fn "kind_of" f_kind_of (.cons (.var 1) (.cons (.var 9) .nil))) (.cst (.str "friend")))
 (.seq (.ret (.cst (.bool false)))
 .nil)
 .nil)
 (.seq (.iff (.bi .ne (.fn "fewest_friends" f_fewest_friends (.cons (.fn "with_friend" f_with_friend (.cons (.var 1) (.cons (.var 9) .nil))) (.cons (.var 6) .nil))) (.repl (.var 7) (.var 9) (.cst (.str ""))))
 (.seq (.ret (.cst (.bool false)))
 .nil)
 .nil)
 (.seq (.asg (.nm 10) (.var 1))
 (.seq (.forr (.seq (.repl (.var 7) (.var 9) (.cst (.str "")))) (.nm 11)
 (.seq (.asg (.nm 10) (.fn "with_friend" f_with_friend (.cons (.var 10) (.cons (.var 11) .nil))))
 .nil))
 (.seq (.iff (.bi .eq (.fn "silent" f_silent (.cons (.var 10) (.cons (.var 6) .nil))) (.lst .nil))
 (.seq (.ret (.cst (.bool false)))
 .nil)
 .nil)
 .nil))))))
 (.seq (.iff (.nt (.fn "_law_kinds" f__law_kinds (.cons (.var 1) (.cons (.var 6) .nil))))
 (.seq (.ret (.cst (.bool false)))
 .nil)
 .nil)
 (.seq (.ret (.fn "_law_times" f__law_times (.cons (.var 1) (.cons (.var 6) .nil))))
 .nil)))))))))))
def f_law : List PyData → R PyData := run 1 12 b_law
theorem s_law : FnScope N_law ["script"] (defScope (topS 63)) := ⟨rfl, rfl, rfl, by decide +kernel, rfl, by decide +kernel, by decide +kernel⟩
def p_law : OPl := (.fst (.nxt (.nxt (.nxt (.forV (.nxt .std) (.nxt (.nxt (.nxt (.forV (.nxt (.nxt (.nxt (.loop (.nxt .std))))) .std)))))))))
theorem k_law : chkO ["with_friend", "with_blocked"] ⟨N_law, defScope (topS 63), fun _ => true⟩ false p_law b_law (defBody (topS 63)) = true := by decide +kernel
/-! #### the chain -/
section
variable {P : Program} {w : World} {K : PySem.W.Frag} {mg : Str → Option Value} {base : Heap}
theorem chain (hn : ∀ x ∈ bltNames, mg x = none)
    (g_AGAIN : GlbG mg "AGAIN" (.str "again"))
    (g_ALWAYS : GlbG mg "ALWAYS" (.str "always"))
    (g_BLOCKED : GlbG mg "BLOCKED" (.str "blocked"))
    (g_CALLERS : GlbG mg "CALLERS" (.str "abcdef"))
    (g_DAY : GlbG mg "DAY" (.int 24))
    (g_DAYS : GlbG mg "DAYS" (.str "0123456"))
    (g_FREE : GlbG mg "FREE" (.str "free"))
    (g_FRIEND : GlbG mg "FRIEND" (.str "friend"))
    (g_HOUR : GlbG mg "HOUR" (.int 60))
    (g_MAX_AGAIN : GlbG mg "MAX_AGAIN" (.int 59))
    (g_MAX_CALLS : GlbG mg "MAX_CALLS" (.int 12))
    (g_MAX_QUIET : GlbG mg "MAX_QUIET" (.int 4))
    (g_NEVER : GlbG mg "NEVER" (.str "never"))
    (g_OTHER : GlbG mg "OTHER" (.str "other"))
    (g_QUIET : GlbG mg "QUIET" (.str "quiet"))
    (g_SOMETIMES : GlbG mg "SOMETIMES" (.str "sometimes"))
    (g_WEEK : GlbG mg "WEEK" (.int 168))
    (r_InvalidCaller : RaiG K mg "InvalidCaller")
    (r_InvalidCalls : RaiG K mg "InvalidCalls")
    (r_InvalidMany : RaiG K mg "InvalidMany")
    (r_InvalidSettings : RaiG K mg "InvalidSettings")
    (d_is_int : FD K mg "is_int" (topS 18) ["value", "least", "most"])
    (d_rises : FD K mg "rises" (topS 19) ["some"])
    (d_is_row : FD K mg "is_row" (topS 20) ["value", "signs"])
    (d_is_time : FD K mg "is_time" (topS 21) ["value"])
    (d_is_settings : FD K mg "is_settings" (topS 22) ["candidate"])
    (d_is_caller : FD K mg "is_caller" (topS 23) ["value"])
    (d_is_call : FD K mg "is_call" (topS 24) ["value"])
    (d_are_calls : FD K mg "are_calls" (topS 25) ["candidate"])
    (d_check_settings : FD K mg "check_settings" (topS 26) ["value"])
    (d_check_caller : FD K mg "check_caller" (topS 27) ["value"])
    (d_check_calls : FD K mg "check_calls" (topS 28) ["settings", "calls"])
    (d_hours_of : FD K mg "hours_of" (topS 29) ["time"])
    (d_find_hours : FD K mg "find_hours" (topS 30) ["quiet"])
    (d_find_kind : FD K mg "find_kind" (topS 31) ["settings", "caller"])
    (d_kind_of : FD K mg "kind_of" (topS 32) ["settings", "caller"])
    (d_comes_again : FD K mg "comes_again" (topS 37) ["calls", "number", "again"])
    (d_find_reasons : FD K mg "find_reasons" (topS 38) ["settings", "calls"])
    (d_find_silent : FD K mg "find_silent" (topS 39) ["settings", "calls"])
    (d_silent : FD K mg "silent" (topS 40) ["settings", "calls"])
    (d_find_ringing : FD K mg "find_ringing" (topS 41) ["settings", "calls"])
    (d_ringing : FD K mg "ringing" (topS 42) ["settings", "calls"])
    (d_reached : FD K mg "reached" (topS 43) ["settings", "calls"])
    (d_add : FD K mg "add" (topS 45) ["callers", "caller"])
    (d_with_friend : FD K mg "with_friend" (topS 46) ["settings", "caller"])
    (d_with_blocked : FD K mg "with_blocked" (topS 47) ["settings", "caller"])
    (d_fewest_friends : FD K mg "fewest_friends" (topS 48) ["settings", "calls"])
    (d_least_again : FD K mg "least_again" (topS 49) ["settings", "calls", "many"])
    (d_check_two : FD K mg "check_two" (topS 54) ["one", "other"])
    (d_find_effect : FD K mg "find_effect" (topS 55) ["settings", "hours", "caller"])
    (d_rings_more : FD K mg "rings_more" (topS 56) ["one", "other"])
    (d__law_drawn : FD K mg "_law_drawn" (topS 58) ["script", "k", "many"])
    (d__law_settings : FD K mg "_law_settings" (topS 59) ["script", "at"])
    (d__law_calls : FD K mg "_law_calls" (topS 60) ["script", "at", "settings", "most"])
    (d__law_times : FD K mg "_law_times" (topS 61) ["settings", "calls"])
    (d__law_kinds : FD K mg "_law_kinds" (topS 62) ["settings", "calls"]) : AllK P w K mg base 8 (uO ["with_friend", "with_blocked"] p_law b_law) := by
  have c_is_int : Cal P w K mg base 1 "is_int" f_is_int := cal_fd d_is_int s_is_int k_is_int hn allU_nil rfl rfl rfl
  have c_rises : Cal P w K mg base 1 "rises" f_rises := cal_fd d_rises s_rises k_rises hn allU_nil rfl rfl rfl
  have c_is_row : Cal P w K mg base 2 "is_row" f_is_row := cal_fd d_is_row s_is_row k_is_row hn (allU_call c_rises rfl allU_nil) rfl rfl rfl
  have c_is_time : Cal P w K mg base 3 "is_time" f_is_time := cal_fd d_is_time s_is_time k_is_time hn (allU_call c_is_row rfl (allU_glb g_DAYS (allU_call c_is_int rfl (allU_glb g_DAY (allU_call c_is_int rfl (allU_glb g_DAY allU_nil)))))) rfl rfl rfl
  have c_is_settings : Cal P w K mg base 4 "is_settings" f_is_settings := cal_fd d_is_settings s_is_settings k_is_settings hn (allU_glb g_MAX_QUIET (allU_call c_is_time rfl (allU_call c_rises rfl (allU_call c_is_row rfl (allU_glb g_CALLERS (allU_call c_is_row rfl (allU_glb g_CALLERS (allU_call c_is_int rfl (allU_glb g_MAX_AGAIN allU_nil))))))))) rfl rfl rfl
  have c_is_caller : Cal P w K mg base 1 "is_caller" f_is_caller := cal_fd d_is_caller s_is_caller k_is_caller hn (allU_glb g_CALLERS allU_nil) rfl rfl rfl
  have c_is_call : Cal P w K mg base 2 "is_call" f_is_call := cal_fd d_is_call s_is_call k_is_call hn (allU_call c_is_int rfl (allU_glb g_WEEK (allU_glb g_HOUR (allU_call c_is_caller rfl allU_nil)))) rfl rfl rfl
  have c_are_calls : Cal P w K mg base 3 "are_calls" f_are_calls := cal_fd d_are_calls s_are_calls k_are_calls hn (allU_glb g_MAX_CALLS (allU_call c_is_call rfl (allU_call c_rises rfl allU_nil))) rfl rfl rfl
  have c_check_settings : Cal P w K mg base 5 "check_settings" f_check_settings := cal_fd d_check_settings s_check_settings k_check_settings hn (allU_call c_is_settings rfl (allU_rai r_InvalidSettings allU_nil)) rfl rfl rfl
  have c_check_caller : Cal P w K mg base 2 "check_caller" f_check_caller := cal_fd d_check_caller s_check_caller k_check_caller hn (allU_call c_is_caller rfl (allU_rai r_InvalidCaller allU_nil)) rfl rfl rfl
  have c_check_calls : Cal P w K mg base 6 "check_calls" f_check_calls := cal_fd d_check_calls s_check_calls k_check_calls hn (allU_call c_check_settings rfl (allU_call c_are_calls rfl (allU_rai r_InvalidCalls allU_nil))) rfl rfl rfl
  have c_hours_of : Cal P w K mg base 1 "hours_of" f_hours_of := cal_fd d_hours_of s_hours_of k_hours_of hn (allU_glb g_DAY (allU_glb g_DAY (allU_glb g_WEEK allU_nil))) rfl rfl rfl
  have c_find_hours : Cal P w K mg base 2 "find_hours" f_find_hours := cal_fd d_find_hours s_find_hours k_find_hours hn (allU_call c_hours_of rfl allU_nil) rfl rfl rfl
  have c_find_kind : Cal P w K mg base 1 "find_kind" f_find_kind := cal_fd d_find_kind s_find_kind k_find_kind hn (allU_glb g_FRIEND (allU_glb g_BLOCKED (allU_glb g_OTHER allU_nil))) rfl rfl rfl
  have c_kind_of : Cal P w K mg base 6 "kind_of" f_kind_of := cal_fd d_kind_of s_kind_of k_kind_of hn (allU_call c_check_settings rfl (allU_call c_check_caller rfl (allU_call c_find_kind rfl allU_nil))) rfl rfl rfl
  have c_comes_again : Cal P w K mg base 1 "comes_again" f_comes_again := cal_fd d_comes_again s_comes_again k_comes_again hn allU_nil rfl rfl rfl
  have c_find_reasons : Cal P w K mg base 3 "find_reasons" f_find_reasons := cal_fd d_find_reasons s_find_reasons k_find_reasons hn (allU_call c_find_hours rfl (allU_call c_find_kind rfl (allU_glb g_BLOCKED (allU_glb g_FRIEND (allU_glb g_HOUR (allU_glb g_FREE (allU_call c_comes_again rfl (allU_glb g_AGAIN (allU_glb g_QUIET allU_nil))))))))) rfl rfl rfl
  have c_find_silent : Cal P w K mg base 4 "find_silent" f_find_silent := cal_fd d_find_silent s_find_silent k_find_silent hn (allU_call c_find_reasons rfl (allU_glb g_BLOCKED (allU_glb g_QUIET allU_nil))) rfl rfl rfl
  have c_silent : Cal P w K mg base 7 "silent" f_silent := cal_fd d_silent s_silent k_silent hn (allU_call c_check_calls rfl (allU_call c_find_silent rfl allU_nil)) rfl rfl rfl
  have c_find_ringing : Cal P w K mg base 5 "find_ringing" f_find_ringing := cal_fd d_find_ringing s_find_ringing k_find_ringing hn (allU_call c_find_silent rfl allU_nil) rfl rfl rfl
  have c_ringing : Cal P w K mg base 7 "ringing" f_ringing := cal_fd d_ringing s_ringing k_ringing hn (allU_call c_check_calls rfl (allU_call c_find_ringing rfl allU_nil)) rfl rfl rfl
  have c_reached : Cal P w K mg base 7 "reached" f_reached := cal_fd d_reached s_reached k_reached hn (allU_call c_check_calls rfl (allU_call c_find_ringing rfl allU_nil)) rfl rfl rfl
  have c_add : Cal P w K mg base 1 "add" f_add := cal_fd d_add s_add k_add hn allU_nil rfl rfl rfl
  have c_with_friend : CalT P w K mg base 6 "with_friend" f_with_friend := cal_fdT d_with_friend s_with_friend rfl rfl k_with_friend l_with_friend hn (allK_call c_check_settings rfl (allK_call c_check_caller rfl (allK_call c_add rfl allK_nil))) rfl rfl rfl
  have c_with_blocked : CalT P w K mg base 6 "with_blocked" f_with_blocked := cal_fdT d_with_blocked s_with_blocked rfl rfl k_with_blocked l_with_blocked hn (allK_call c_check_settings rfl (allK_call c_check_caller rfl (allK_call c_add rfl allK_nil))) rfl rfl rfl
  have c_fewest_friends : Cal P w K mg base 7 "fewest_friends" f_fewest_friends := cal_fd d_fewest_friends s_fewest_friends k_fewest_friends hn (allU_call c_check_calls rfl (allU_call c_add rfl (allU_call c_find_silent rfl allU_nil))) rfl rfl rfl
  have c_least_again : Cal P w K mg base 7 "least_again" f_least_again := cal_fd d_least_again s_least_again k_least_again hn (allU_call c_check_calls rfl (allU_call c_is_int rfl (allU_glb g_MAX_CALLS (allU_rai r_InvalidMany (allU_glb g_MAX_AGAIN (allU_call c_find_silent rfl allU_nil)))))) rfl rfl rfl
  have c_check_two : Cal P w K mg base 6 "check_two" f_check_two := cal_fd d_check_two s_check_two k_check_two hn (allU_call c_check_settings rfl (allU_call c_check_settings rfl allU_nil)) rfl rfl rfl
  have c_find_effect : Cal P w K mg base 2 "find_effect" f_find_effect := cal_fd d_find_effect s_find_effect k_find_effect hn (allU_call c_find_kind rfl (allU_glb g_FRIEND (allU_glb g_BLOCKED (allU_glb g_ALWAYS (allU_glb g_BLOCKED (allU_glb g_WEEK (allU_glb g_NEVER (allU_glb g_SOMETIMES allU_nil)))))))) rfl rfl rfl
  have c_rings_more : Cal P w K mg base 7 "rings_more" f_rings_more := cal_fd d_rings_more s_rings_more k_rings_more hn (allU_call c_check_two rfl (allU_call c_find_hours rfl (allU_call c_find_hours rfl (allU_glb g_CALLERS (allU_call c_find_effect rfl (allU_call c_find_effect rfl (allU_glb g_ALWAYS (allU_glb g_NEVER (allU_glb g_NEVER (allU_glb g_ALWAYS allU_nil)))))))))) rfl rfl rfl
  have c__law_drawn : Cal P w K mg base 1 "_law_drawn" f__law_drawn := cal_fd d__law_drawn s__law_drawn k__law_drawn hn allU_nil rfl rfl rfl
  have c__law_settings : Cal P w K mg base 2 "_law_settings" f__law_settings := cal_fd d__law_settings s__law_settings k__law_settings hn (allU_call c__law_drawn rfl (allU_call c__law_drawn rfl (allU_call c__law_drawn rfl (allU_call c__law_drawn rfl (allU_call c__law_drawn rfl (allU_call c__law_drawn rfl (allU_call c__law_drawn rfl (allU_call c__law_drawn rfl allU_nil)))))))) rfl rfl rfl
  have c__law_calls : Cal P w K mg base 2 "_law_calls" f__law_calls := cal_fd d__law_calls s__law_calls k__law_calls hn (allU_call c__law_drawn rfl (allU_call c__law_drawn rfl (allU_call c__law_drawn rfl (allU_call c__law_drawn rfl (allU_call c__law_drawn rfl (allU_call c__law_drawn rfl (allU_call c__law_drawn rfl allU_nil))))))) rfl rfl rfl
  have c__law_times : Cal P w K mg base 8 "_law_times" f__law_times := cal_fd d__law_times s__law_times k__law_times hn (allU_call c_least_again rfl (allU_call c_silent rfl (allU_call c_silent rfl (allU_call c_silent rfl (allU_call c_ringing rfl (allU_call c_silent rfl allU_nil)))))) rfl rfl rfl
  have c__law_kinds : Cal P w K mg base 8 "_law_kinds" f__law_kinds := cal_fdO d__law_kinds s__law_kinds k__law_kinds hn (allK_tok c_with_friend rfl (allK_tok c_with_blocked rfl (allK_call c_kind_of rfl (allK_call c_kind_of rfl (allK_tok c_with_friend rfl (allK_tok c_with_blocked rfl (allK_tok c_with_friend rfl (allK_call c_is_settings rfl (allK_call c_rings_more rfl (allK_call c_rings_more rfl (allK_call c_reached rfl (allK_call c_reached rfl allK_nil)))))))))))) rfl rfl rfl
  have e : AllK P w K mg base 8 _ := (allK_call c__law_settings rfl (allK_call c__law_calls rfl (allK_call c_fewest_friends rfl (allK_tok c_with_friend rfl (allK_call c_silent rfl (allK_call c_silent rfl (allK_call c_is_settings rfl (allK_call c_kind_of rfl (allK_call c_fewest_friends rfl (allK_tok c_with_friend rfl (allK_tok c_with_friend rfl (allK_call c_silent rfl (allK_call c__law_kinds rfl (allK_call c__law_times rfl allK_nil))))))))))))))
  exact e
theorem fin {fa : Addr} (hmg : mg "law" = some (.ref fa)) (hn : ∀ x ∈ bltNames, mg x = none)
    (g_AGAIN : GlbG mg "AGAIN" (.str "again"))
    (g_ALWAYS : GlbG mg "ALWAYS" (.str "always"))
    (g_BLOCKED : GlbG mg "BLOCKED" (.str "blocked"))
    (g_CALLERS : GlbG mg "CALLERS" (.str "abcdef"))
    (g_DAY : GlbG mg "DAY" (.int 24))
    (g_DAYS : GlbG mg "DAYS" (.str "0123456"))
    (g_FREE : GlbG mg "FREE" (.str "free"))
    (g_FRIEND : GlbG mg "FRIEND" (.str "friend"))
    (g_HOUR : GlbG mg "HOUR" (.int 60))
    (g_MAX_AGAIN : GlbG mg "MAX_AGAIN" (.int 59))
    (g_MAX_CALLS : GlbG mg "MAX_CALLS" (.int 12))
    (g_MAX_QUIET : GlbG mg "MAX_QUIET" (.int 4))
    (g_NEVER : GlbG mg "NEVER" (.str "never"))
    (g_OTHER : GlbG mg "OTHER" (.str "other"))
    (g_QUIET : GlbG mg "QUIET" (.str "quiet"))
    (g_SOMETIMES : GlbG mg "SOMETIMES" (.str "sometimes"))
    (g_WEEK : GlbG mg "WEEK" (.int 168))
    (r_InvalidCaller : RaiG K mg "InvalidCaller")
    (r_InvalidCalls : RaiG K mg "InvalidCalls")
    (r_InvalidMany : RaiG K mg "InvalidMany")
    (r_InvalidSettings : RaiG K mg "InvalidSettings")
    (d_is_int : FD K mg "is_int" (topS 18) ["value", "least", "most"])
    (d_rises : FD K mg "rises" (topS 19) ["some"])
    (d_is_row : FD K mg "is_row" (topS 20) ["value", "signs"])
    (d_is_time : FD K mg "is_time" (topS 21) ["value"])
    (d_is_settings : FD K mg "is_settings" (topS 22) ["candidate"])
    (d_is_caller : FD K mg "is_caller" (topS 23) ["value"])
    (d_is_call : FD K mg "is_call" (topS 24) ["value"])
    (d_are_calls : FD K mg "are_calls" (topS 25) ["candidate"])
    (d_check_settings : FD K mg "check_settings" (topS 26) ["value"])
    (d_check_caller : FD K mg "check_caller" (topS 27) ["value"])
    (d_check_calls : FD K mg "check_calls" (topS 28) ["settings", "calls"])
    (d_hours_of : FD K mg "hours_of" (topS 29) ["time"])
    (d_find_hours : FD K mg "find_hours" (topS 30) ["quiet"])
    (d_find_kind : FD K mg "find_kind" (topS 31) ["settings", "caller"])
    (d_kind_of : FD K mg "kind_of" (topS 32) ["settings", "caller"])
    (d_comes_again : FD K mg "comes_again" (topS 37) ["calls", "number", "again"])
    (d_find_reasons : FD K mg "find_reasons" (topS 38) ["settings", "calls"])
    (d_find_silent : FD K mg "find_silent" (topS 39) ["settings", "calls"])
    (d_silent : FD K mg "silent" (topS 40) ["settings", "calls"])
    (d_find_ringing : FD K mg "find_ringing" (topS 41) ["settings", "calls"])
    (d_ringing : FD K mg "ringing" (topS 42) ["settings", "calls"])
    (d_reached : FD K mg "reached" (topS 43) ["settings", "calls"])
    (d_add : FD K mg "add" (topS 45) ["callers", "caller"])
    (d_with_friend : FD K mg "with_friend" (topS 46) ["settings", "caller"])
    (d_with_blocked : FD K mg "with_blocked" (topS 47) ["settings", "caller"])
    (d_fewest_friends : FD K mg "fewest_friends" (topS 48) ["settings", "calls"])
    (d_least_again : FD K mg "least_again" (topS 49) ["settings", "calls", "many"])
    (d_check_two : FD K mg "check_two" (topS 54) ["one", "other"])
    (d_find_effect : FD K mg "find_effect" (topS 55) ["settings", "hours", "caller"])
    (d_rings_more : FD K mg "rings_more" (topS 56) ["one", "other"])
    (d__law_drawn : FD K mg "_law_drawn" (topS 58) ["script", "k", "many"])
    (d__law_settings : FD K mg "_law_settings" (topS 59) ["script", "at"])
    (d__law_calls : FD K mg "_law_calls" (topS 60) ["script", "at", "settings", "most"])
    (d__law_times : FD K mg "_law_times" (topS 61) ["settings", "calls"])
    (d__law_kinds : FD K mg "_law_kinds" (topS 62) ["settings", "calls"]) (d_law : FL K mg (topS 63)) : ∃ fd : FuncData, (∀ (s : Shared) (u : Value), BindsTo s fd ⟨[u], []⟩ [("script", u)]) ∧
      ∀ base : Heap, K.In base → base.Ns mainGlobals mg → FnOk P w K mg base (L2.CX P w) 9 fa fd ["script"] (SpT f_law) :=
  law_fnO d_law hmg s_law k_law hn (fun base => chain hn g_AGAIN g_ALWAYS g_BLOCKED g_CALLERS g_DAY g_DAYS g_FREE g_FRIEND g_HOUR g_MAX_AGAIN g_MAX_CALLS g_MAX_QUIET g_NEVER g_OTHER g_QUIET g_SOMETIMES g_WEEK r_InvalidCaller r_InvalidCalls r_InvalidMany r_InvalidSettings d_is_int d_rises d_is_row d_is_time d_is_settings d_is_caller d_is_call d_are_calls d_check_settings d_check_caller d_check_calls d_hours_of d_find_hours d_find_kind d_kind_of d_comes_again d_find_reasons d_find_silent d_silent d_find_ringing d_ringing d_reached d_add d_with_friend d_with_blocked d_fewest_friends d_least_again d_check_two d_find_effect d_rings_more d__law_drawn d__law_settings d__law_calls d__law_times d__law_kinds) rfl
end
end L21
/-! ### k21: the plain law -/
namespace L21
open PySem QB QL
theorem callers_c {ρ : QB.Env} : evI (.seq (.cst (.str "abcdef"))) ρ = .ok (callL.map c1s) := seq_ok (d := .str "abcdef") rfl (by rw [callers_is]; rfl)
theorem isnt_t {ρ : QB.Env} {p : P} (h : ev p ρ = .ok (.bool true)) : ev (.bi .isnt p (.cst (.bool true))) ρ = .ok (.bool false) := bi_ok h rfl rfl rfl
theorem law_kinds_ok {s : Stg} (hs : Good s) {cs : List Cl} (h : GoodC cs) : f__law_kinds [stD s, .tuple (cs.map clD)] = .ok (.bool true) := by
  refine Rets.ok (rets_of rfl ?_)
  refine wp_seq (wp_for (fun _ ρ => ∃ a b c d, ρ = [.da (stD s), .da (.tuple (cs.map clD)), a, b, c, d]) callers_c ⟨_, _, _, _, rfl⟩ (fun i d ρ hd hI => ?_) fun ρ hI => ?_)
  · obtain ⟨x2, x3, x4, x5, rfl⟩ := hI
    obtain ⟨c, hc, rfl⟩ := List.mem_map.mp (List.mem_of_getElem? hd)
    clear hd
    obtain ⟨h1, h2⟩ := mem_call.mp hc
    have g1 := fri_good hs h1 h2
    have g2 := blo_good hs h1 h2
    refine ⟨_, rfl, ?_⟩
    refine wp_seq (wp_par (sls := [.da (stD (friS s c)), .da (stD (bloS s c))]) (by rw [evP_cons, evP_cons, ev1_fn, ev1_fn, fn2_ok rfl rfl (with_friend_ok hs h1 h2), fn2_ok rfl rfl (with_blocked_ok hs h1 h2)]; rfl) rfl ?_)
    have n1 : decide (c ∈ (friS s c).near) = true := by rw [fri_near]; simp
    have n2 : decide (c ∈ (bloS s c).shut) = true := by rw [blo_shut]; simp
    have n3 : decide (c ∈ (bloS s c).near) = false := by rw [blo_near]; simp
    refine wp_seq (wp_no (oo_ok (x := false) (y := false) (bi_ok (fn2_ok rfl rfl (kind_of_ok g1 h1 h2)) rfl rfl (by rw [ne_str, kind_fr, n1]; rfl)) fun _ => bi_ok (fn2_ok rfl rfl (kind_of_ok g2 h1 h2)) rfl rfl (by rw [ne_str, kind_bl _ g2, n2]; rfl)) rfl (wp_nil ?_))
    refine wp_seq (wp_no (bi_ok (fn2_ok rfl rfl (with_friend_ok g2 h1 h2)) rfl rfl (ne_enc enc_st _ _)) (by rw [fri_blo hs]; simp) (wp_nil ?_))
    refine wp_seq (wp_no (oo_ok (bi_ok (fn2_ok rfl rfl (with_blocked_ok g1 h1 h2)) rfl rfl (ne_enc enc_st _ _)) fun _ => bi_ok (fn2_ok rfl rfl (with_friend_ok g1 h1 h2)) rfl rfl (ne_enc enc_st _ _)) (by rw [blo_fri hs, fri_fri hs]; simp) (wp_nil ?_))
    refine wp_seq (wp_no (isnt_t (fn1_ok rfl (is_settings_ok g2))) rfl (wp_nil ?_))
    have m1 : moreB (friS s c) (bloS s c) = true := more_one rfl rfl (by simpa using n1) (fun x hx => by
      have a := fri_near s c x
      have b := blo_near s c x
      rw [decide_eq_false hx] at a b
      rw [← decide_eq_decide, a, b]; simp) (fun x hx => by
      have a := fri_shut s c x
      have b := blo_shut s c x
      rw [decide_eq_false hx] at a b
      rw [← decide_eq_decide, a, b]; simp)
    have m2 : moreB (friS s c) s = true := more_one rfl rfl (by simpa using n1) (fun x hx => by
      have a := fri_near s c x
      rw [decide_eq_false hx, Bool.or_false] at a
      exact decide_eq_decide.mp a) (fun x hx => by
      have a := fri_shut s c x
      rw [decide_eq_false hx, Bool.not_false, Bool.and_true] at a
      exact decide_eq_decide.mp a)
    refine wp_seq (wp_no (oo_ok (x := false) (y := false) (isnt_t (fn2_ok rfl rfl (by rw [rings_more_ok g1 g2, m1]))) fun _ => isnt_t (fn2_ok rfl rfl (by rw [rings_more_ok g1 hs, m2]))) rfl (wp_nil ?_))
    refine wp_seq (wp_no (bi_ok rfl (fn2_ok rfl rfl (reached_ok g2 h)) rfl (inn_c _ _)) ?_ (wp_nil ?_))
    · refine decide_eq_false fun hm => ?_
      obtain ⟨n, q1, q2, rfl⟩ := mem_reaN.mp hm
      rw [ring_iff h q1, n3, n2] at q2
      simp at q2
    refine wp_seq (wp_no (an_ok (x := decide (c ∈ cs.map (·.c))) (y := !decide (c ∈ reaN (friS s c) cs)) (bi_ok (e := .list ((cs.map (·.c)).map c1s)) rfl (by
      rw [List.map_map]
      exact ev_comp_ok (xs := cs) (enc := clD) (seq_ok rfl rfl) (by have := h.few; omega) fun k _ => ⟨_, rfl, bi_ok rfl rfl rfl (cl_one k)⟩) rfl (inn_list enc_c1 _ _)) fun _ => bi_ok rfl (fn2_ok rfl rfl (reached_ok g1 h)) rfl (nin_c _ _)) ?_ (wp_nil (wp_nil ⟨_, _, _, _, rfl⟩)))
    by_cases q : c ∈ cs.map (·.c)
    · obtain ⟨k, hk, rfl⟩ := List.mem_map.mp q
      obtain ⟨n, hn, e⟩ := List.mem_iff_getElem.mp hk
      have hat : callAt cs n = k.c := by unfold callAt; rw [List.getD_eq_getElem?_getD, List.getElem?_eq_getElem hn, e]; rfl
      have : k.c ∈ reaN (friS s k.c) cs := mem_reaN.mpr ⟨n, hn, by rw [ring_iff h hn, hat, n1]; rfl, hat⟩
      simp [this]
    · simp [q]
  · exact wp_seq (wp_ret rfl rfl)
def prevO (s : Stg) (cs : List Cl) : Nat → Option Nat
  | 0 => none
  | i + 1 => leastO s cs (i : Int)
theorem st4 {s : Stg} {a : Int} {x1 x6 x7 x8 x9 : Sl} {p : P} (hp : ev p [.da (stD s), x1, .da (.tuple (s.q.map tmD)), .da (.str (sg s.near)), .da (.str (sg s.shut)), .da (.int s.again), x6, x7, x8, x9] = .ok (.int a)) :
    ev (.tup (.cons (.var 2) (.cons (.var 3) (.cons (.var 4) (.cons p .nil))))) [.da (stD s), x1, .da (.tuple (s.q.map tmD)), .da (.str (sg s.near)), .da (.str (sg s.shut)), .da (.int s.again), x6, x7, x8, x9] = .ok (stD (agS s a)) := by
  rw [ev_tup, evs_cons, evs_cons, evs_cons, evs_cons, hp]
  rfl
theorem len_nat (l : List Nat) : un1 .len (.list ((natI l).map .int)) = .ok (.int (l.length : Nat)) := by
  show R.ok (PyData.int (((natI l).map PyData.int).length : Nat)) = _
  unfold natI; simp
theorem law_times_ok {s : Stg} (hs : Good s) {cs : List Cl} (h : GoodC cs) : f__law_times [stD s, .tuple (cs.map clD)] = .ok (.bool true) := by
  have hfew := h.few
  have ha0 := hs.a0
  have ha1 := hs.a1
  refine Rets.ok (rets_of rfl ?_)
  refine wp_seq (wp_asg rfl rfl ?_)
  refine wp_seq (wp_set rfl ?_)
  refine wp_cut (fun ρ => ∃ x7 x8 x9, ρ = [.da (stD s), .da (.tuple (cs.map clD)), .da (.tuple (s.q.map tmD)), .da (.str (sg s.near)), .da (.str (sg s.shut)), .da (.int s.again), .da (opD (natO (prevO s cs (cs.length + 1)))), x7, x8, x9])
    (wp_for (fun i ρ => ∃ x7 x8 x9, ρ = [.da (stD s), .da (.tuple (cs.map clD)), .da (.tuple (s.q.map tmD)), .da (.str (sg s.near)), .da (.str (sg s.shut)), .da (.int s.again), .da (opD (natO (prevO s cs i))), x7, x8, x9]) (ds := (List.range (cs.length + 1)).map fun k => .int ((k : Nat) : Int)) ?_ ⟨_, _, _, rfl⟩ (fun i d ρ hd hI => ?_) fun ρ hI => ?_) ?_
  · have e : bi2 .add (.int ((cs.map clD).length : Nat)) (.int 1) = .ok (.int ((cs.length + 1 : Nat) : Int)) := by
      show R.ok (PyData.int _) = _
      simp
    rw [evI_rng1, bi_ok (un_ok rfl rfl) rfl rfl e, R.bind_ok]
    have := rng_lit (cs.length + 1) (by omega)
    generalize cs.length + 1 = N at this ⊢
    exact this
  · obtain ⟨x7, x8, x9, rfl⟩ := hI
    obtain ⟨hi, rfl⟩ := at_range hd
    clear hd
    refine ⟨_, rfl, ?_⟩
    obtain ⟨L, hL⟩ : ∃ L, L = leastO s cs (i : Int) := ⟨_, rfl⟩
    have e1 := least_again_ok hs h (many := (i : Int)) (by omega) (by omega)
    rw [← hL] at e1
    refine wp_seq (wp_set (fn3_ok rfl rfl rfl e1) ?_)
    -- it does not grow
    refine wp_seq (wp_no (k := false) ?_ rfl (wp_nil ?_))
    · cases i with
      | zero => exact an_ok (x := false) (y := false) rfl fun z => nomatch z
      | succ i =>
        refine (an_ok (x := true) (y := false) ?_ fun _ => ?_)
        · exact bi_ok rfl rfl rfl (by show R.ok (PyData.bool (decide ((0 : Int) < ((i + 1 : Nat) : Int)))) = _; rw [decide_eq_true (by omega)])
        cases hp : leastO s cs (i : Int) with
        | none => exact an_ok (x := false) (y := false) (bi_ok (d := .none) (by show R.ok (opD (natO (leastO s cs (i : Int)))) = _; rw [hp]; rfl) rfl rfl rfl) fun z => nomatch z
        | some b =>
          obtain ⟨hb, hb1, _⟩ := least_some hp
          obtain ⟨a, ha, hab⟩ := least_ex (s := s) (cs := cs) (many := ((i + 1 : Nat) : Int)) hb (by omega)
          rw [← hL] at ha
          subst ha
          refine an_ok (x := true) (y := false) (bi_ok (d := .int (b : Int)) (by show R.ok (opD (natO (leastO s cs (i : Int)))) = _; rw [hp]; rfl) rfl rfl rfl) fun _ => oo_ok (x := false) (y := false) (bi_ok rfl rfl rfl rfl) fun _ => bi_ok (d := .int (a : Int)) (e := .int (b : Int)) rfl (by show R.ok (opD (natO (leastO s cs (i : Int)))) = _; rw [hp]; rfl) rfl ?_
          show R.ok (PyData.bool (decide ((b : Int) < (a : Int)))) = _
          rw [decide_eq_false (by omega)]
    -- it is enough
    refine wp_seq (wp_no (k := false) ?_ rfl (wp_nil ?_))
    · cases L with
      | none => exact an_ok (x := false) (y := false) rfl fun z => nomatch z
      | some a =>
        obtain ⟨ha, ha1', ha2⟩ := least_some hL.symm
        refine an_ok (x := true) (y := false) rfl fun _ => bi_ok (un_ok (fn2_ok (st4 (a := (a : Int)) rfl) rfl (silent_ok (ag_good hs (by omega) (by omega)) h)) (len_nat _)) rfl rfl ?_
        show R.ok (PyData.bool (decide ((i : Int) < (((silN (agS s (a : Int)) cs).length : Nat) : Int)))) = _
        rw [decide_eq_false (by omega)]
    -- a lesser one is not
    refine wp_cut (fun ρ => ρ = [.da (stD s), .da (.tuple (cs.map clD)), .da (.tuple (s.q.map tmD)), .da (.str (sg s.near)), .da (.str (sg s.shut)), .da (.int s.again), .da (opD (natO (prevO s cs i))), .da (.int (i : Int)), .da (opD (natO L)), x9]) ?_ ?_
    · cases L with
      | none => exact wp_no (k := false) (an_ok (x := false) (y := false) rfl fun z => nomatch z) rfl (wp_nil rfl)
      | some a =>
        obtain ⟨ha, ha1', ha2⟩ := least_some hL.symm
        refine wp_if (an_ok (x := true) (y := decide ((0 : Int) < (a : Int))) rfl fun _ => rfl) (fun q => ?_) (fun _ => wp_nil rfl)
        have q : 0 < a := by simpa using q
        refine wp_seq (wp_no (bi_ok (un_ok (fn2_ok (st4 (a := ((a - 1 : Nat) : Int)) (bi_ok rfl rfl rfl (by show R.ok (PyData.int ((a : Int) - 1)) = _; rw [show (a : Int) - 1 = ((a - 1 : Nat) : Int) by omega]))) rfl (silent_ok (ag_good hs (by omega) (by omega)) h)) (len_nat _)) rfl rfl rfl) ?_ (wp_nil (wp_nil rfl)))
        exact decide_eq_false (ha2 (a - 1) (by omega))
    rintro _ rfl
    -- the present one
    refine wp_seq (wp_no (k := false) ?_ rfl (wp_nil ?_))
    · have hk : ev (.an (.bi .isnt (.var 8) (.cst .none)) (.bi .le (.var 8) (.var 5))) [.da (stD s), .da (.tuple (cs.map clD)), .da (.tuple (s.q.map tmD)), .da (.str (sg s.near)), .da (.str (sg s.shut)), .da (.int s.again), .da (opD (natO (prevO s cs i))), .da (.int (i : Int)), .da (opD (natO L)), x9] = .ok (.bool (decide (((silN s cs).length : Int) ≤ (i : Int)))) := by
        cases L with
        | none =>
          have : ¬ ((silN s cs).length : Int) ≤ (i : Int) := fun q => by
            obtain ⟨a, ha, _⟩ := least_ex (s := s) (cs := cs) (many := (i : Int)) (b := s.again.toNat) (by omega) (by
              rw [show ((s.again.toNat : Nat) : Int) = s.again by omega, ag_self]; exact q)
            rw [← hL] at ha
            cases ha
          rw [decide_eq_false this]
          exact an_ok (x := false) (y := false) rfl fun z => nomatch z
        | some a =>
          obtain ⟨ha, ha1', ha2⟩ := least_some hL.symm
          have : decide ((a : Int) ≤ s.again) = decide (((silN s cs).length : Int) ≤ (i : Int)) := by
            rw [decide_eq_decide]
            constructor
            · intro q
              have := ag_len (s := s) h q
              rw [ag_self] at this
              omega
            · intro q
              obtain ⟨a', ha', hle⟩ := least_ex (s := s) (cs := cs) (many := (i : Int)) (b := s.again.toNat) (by omega) (by
                rw [show ((s.again.toNat : Nat) : Int) = s.again by omega, ag_self]; exact q)
              rw [← hL] at ha'
              cases ha'
              omega
          rw [← this]
          exact an_ok (x := true) rfl fun _ => rfl
      exact bi_ok hk (bi_ok (un_ok (fn2_ok rfl rfl (silent_ok hs h)) (len_nat _)) rfl rfl rfl) rfl (by
        rw [ne_bool]; simp)
    have hprev : prevO s cs (i + 1) = L := hL.symm
    rw [hprev]
    exact wp_seq (wp_set rfl (wp_nil ⟨_, _, _, rfl⟩))
  · rw [List.length_map, List.length_range] at hI
    exact hI
  rintro _ ⟨x7, x8, x9, rfl⟩
  have hlast : prevO s cs (cs.length + 1) = some 0 := by
    obtain ⟨a, ha, hle⟩ := least_ex (s := s) (cs := cs) (many := (cs.length : Int)) (b := 0) (by decide) (by have := sil_len (agS s ((0 : Nat) : Int)) cs; omega)
    show leastO s cs (cs.length : Int) = some 0
    rw [ha]
    congr 1
    omega
  rw [hlast]
  refine wp_seq (wp_no (k := false) (bi_ok rfl rfl rfl rfl) rfl (wp_nil ?_))
  refine wp_seq (wp_ret (bi_ok (fn2_ok rfl rfl (ringing_ok hs h)) (e := .list ((ringL s cs 0).map .int)) ?_ rfl (eq_ints _ _)) (by simp))
  rw [ringL_is, natI_map]
  refine ev_compT_ok (xs := List.range cs.length) (enc := fun n => .int ((n : Nat) : Int)) (g := fun n => .int ((n : Nat) : Int)) (q := fun n => ringS s cs n (cs.getD n ⟨0, 0⟩) 0) (by
    have e : un1 .len (.tuple (cs.map clD)) = .ok (.int ((cs.length : Nat) : Int)) := by
      show R.ok (PyData.int _) = _
      simp
    rw [evI_rng1, un_ok rfl e]
    exact rng_lit cs.length (by omega)) (by simp; omega) fun n hn => ⟨_, rfl, ?_, fun _ => rfl⟩
  have hn := List.mem_range.mp hn
  refine bi_ok rfl (fn2_ok rfl rfl (silent_ok hs h)) rfl ?_
  rw [nin_ints]
  congr 2
  have : decide ((n : Int) ∈ natI (silN s cs)) = silB s cs n := by
    rw [Bool.eq_iff_iff, decide_eq_true_eq]
    unfold natI
    rw [List.mem_map]
    constructor
    · rintro ⟨m, hm, e⟩
      have : m = n := by omega
      subst this
      exact (mem_silN.mp hm).2
    · intro q
      exact ⟨n, mem_silN.mpr ⟨hn, q⟩, rfl⟩
  rw [this, sil_ring s cs n h.m hn, Bool.not_not]
theorem txt_seq {ρ : QB.Env} {n : Nat} {l : List Nat} (h : ρ[n]? = some (.da (.str (sg l)))) (hl : l.length ≤ 100) : evI (.seq (.bi .add (.var n) (.cst (.str "")))) ρ = .ok (l.map c1s) := by
  have e : ev (.var n) ρ = .ok (.str (sg l)) := by show Sl.get ρ[n]? = _; rw [h]; rfl
  refine seq_ok (d := .str (sg l)) (bi_ok e rfl rfl ?_) (by show some ((sg l).cps.toList.map _) = _; rw [sg_cps])
  rw [empty_is, add_sg (by simp; omega), List.append_nil]
theorem get_map {α : Type} {f : α → PyData} {l : List α} {i : Nat} {d : PyData} (h : (l.map f)[i]? = some d) : ∃ x, l[i]? = some x ∧ d = f x := by
  rw [List.getElem?_map] at h
  cases q : l[i]? with
  | none => rw [q] at h; cases h
  | some x => rw [q] at h; cases h; exact ⟨x, rfl, rfl⟩
theorem take_snoc {α : Type} {l : List α} {i : Nat} {x : α} (h : l[i]? = some x) : l.take (i + 1) = l.take i ++ [x] := by rw [List.take_add_one, h]; rfl
theorem law_holds (ns : List Int) (hns : ns.length ≤ 63) : f_law [.list (ns.map .int)] = .ok (.bool true) := by
  obtain ⟨s, es, hs⟩ := settings_ex hns (at_ := 10) (by decide) (by decide)
  obtain ⟨cs, ec, h⟩ := calls_ex hns (at_ := 80) (most := 9) (by decide) (by decide) (by decide) (by decide) hs
  obtain ⟨nd, hnd⟩ : ∃ nd, nd = fewL s cs := ⟨_, rfl⟩
  have hrow : Row 97 102 nd := by rw [hnd]; exact few_row h
  have hlen := row_small hrow
  have h128 : ∀ c ∈ nd, c < 128 := fun c hc => by have := (hrow.2 c hc).2; omega
  have gL : ∀ l : List Nat, (∀ c ∈ l, c ∈ nd) → Good (friL s l) := fun l hl => friL_good hs fun c hc => hrow.2 c (hl c hc)
  refine Rets.ok (rets_of rfl ?_)
  refine wp_seq (wp_set (fn2_ok rfl rfl es) ?_)
  refine wp_seq (wp_asg rfl rfl ?_)
  refine wp_seq (wp_set (fn4_ok rfl rfl rfl rfl ec) ?_)
  refine wp_seq (wp_par (sls := [.da (.str (sg nd)), .da (stD s)]) (by rw [hnd, evP_cons, evP_cons, ev1_fn, fn2_ok rfl rfl (fewest_friends_ok hs h)]; rfl) rfl ?_)
  refine wp_cut (fun ρ => ∃ x9 x10 x11, ρ = [.da (.list (ns.map .int)), .da (stD s), .da (.tuple (s.q.map tmD)), .da (.str (sg s.near)), .da (.str (sg s.shut)), .da (.int s.again), .da (.tuple (cs.map clD)), .da (.str (sg nd)), .da (stD (friL s nd)), x9, x10, x11])
    (wp_for (fun i ρ => ∃ x9 x10 x11, ρ = [.da (.list (ns.map .int)), .da (stD s), .da (.tuple (s.q.map tmD)), .da (.str (sg s.near)), .da (.str (sg s.shut)), .da (.int s.again), .da (.tuple (cs.map clD)), .da (.str (sg nd)), .da (stD (friL s (nd.take i))), x9, x10, x11]) (txt_seq rfl (by omega)) ⟨_, _, _, rfl⟩ (fun i d ρ hd hI => ?_) fun ρ hI => ?_) ?_
  · obtain ⟨x9, x10, x11, rfl⟩ := hI
    obtain ⟨c, hc, rfl⟩ := get_map hd
    have hm := List.mem_of_getElem? hc
    refine ⟨_, rfl, wp_seq (wp_set (fn2_ok rfl rfl (with_friend_ok (gL _ fun x hx => List.mem_of_mem_take hx) (hrow.2 c hm).1 (hrow.2 c hm).2)) (wp_nil ?_))⟩
    rw [take_snoc hc, friL_snoc]
    exact ⟨_, _, _, rfl⟩
  · rw [List.length_map, List.take_length] at hI
    exact hI
  rintro _ ⟨x9, x10, x11, rfl⟩
  have gc := gL nd fun _ h => h
  refine wp_seq (wp_no (bi_ok (fn2_ok rfl rfl (silent_ok gc h)) rfl rfl (ne_nil _)) (by rw [hnd, all_friends h]; rfl) (wp_nil ?_))
  refine wp_seq (wp_no (bi_ok (d := .bool (decide (nd = []))) (e := .bool (decide (silN s cs = []))) (bi_ok rfl rfl rfl ?_) (bi_ok (fn2_ok rfl rfl (silent_ok hs h)) rfl rfl ?_) rfl (ne_bool _ _)) ?_ (wp_nil ?_))
  · rw [eq_str, empty_is]
    congr 2
    rw [decide_eq_decide]
    exact ⟨fun q => sg_inj q, fun q => by rw [q]⟩
  · rw [eq_nil, List.isEmpty_map]
    congr 2
    unfold natI
    rw [List.isEmpty_map]
    cases silN s cs <;> rfl
  · rw [hnd]
    have := few_nil (s := s) (cs := cs)
    simp [this]
  refine wp_seq (wp_no (isnt_t (fn1_ok rfl (is_settings_ok gc))) rfl (wp_nil ?_))
  refine wp_cut (fun ρ => ∃ x9 x10 x11, ρ = [.da (.list (ns.map .int)), .da (stD s), .da (.tuple (s.q.map tmD)), .da (.str (sg s.near)), .da (.str (sg s.shut)), .da (.int s.again), .da (.tuple (cs.map clD)), .da (.str (sg nd)), .da (stD (friL s nd)), x9, x10, x11])
    (wp_for (fun _ ρ => ∃ x9 x10 x11, ρ = [.da (.list (ns.map .int)), .da (stD s), .da (.tuple (s.q.map tmD)), .da (.str (sg s.near)), .da (.str (sg s.shut)), .da (.int s.again), .da (.tuple (cs.map clD)), .da (.str (sg nd)), .da (stD (friL s nd)), x9, x10, x11]) (txt_seq rfl (by omega)) ⟨_, _, _, rfl⟩ (fun i d ρ hd hI => ?_) fun ρ hI => hI) ?_
  · obtain ⟨x9, x10, x11, rfl⟩ := hI
    obtain ⟨c, hc, rfl⟩ := get_map hd
    clear hd
    have hm := List.mem_of_getElem? hc
    obtain ⟨h1, h2⟩ := hrow.2 c hm
    have hmf : c ∈ fewL s cs := by rw [← hnd]; exact hm
    refine ⟨_, rfl, ?_⟩
    refine wp_seq (wp_no (bi_ok (fn2_ok rfl rfl (kind_of_ok hs h1 h2)) rfl rfl (eq_str _ _)) (by rw [kind_fr]; exact decide_eq_false (few_near h hmf)) (wp_nil ?_))
    have e2 : ev (.repl (.var 7) (.var 9) (.cst (.str ""))) [.da (.list (ns.map .int)), .da (stD s), .da (.tuple (s.q.map tmD)), .da (.str (sg s.near)), .da (.str (sg s.shut)), .da (.int s.again), .da (.tuple (cs.map clD)), .da (.str (sg nd)), .da (stD (friL s nd)), .da (c1s c), x10, x11] = .ok (.str (sg (rem nd c))) := rep_ok (by omega) h128
    refine wp_seq (wp_no (bi_ok (fn2_ok (fn2_ok rfl rfl (with_friend_ok hs h1 h2)) rfl (fewest_friends_ok (fri_good hs h1 h2) h)) e2 rfl (ne_enc enc_sg _ _)) (by rw [few_fri h, hnd]; simp) (wp_nil ?_))
    refine wp_seq (wp_set rfl ?_)
    refine wp_cut (fun ρ => ∃ x11, ρ = [.da (.list (ns.map .int)), .da (stD s), .da (.tuple (s.q.map tmD)), .da (.str (sg s.near)), .da (.str (sg s.shut)), .da (.int s.again), .da (.tuple (cs.map clD)), .da (.str (sg nd)), .da (stD (friL s nd)), .da (c1s c), .da (stD (friL s (rem nd c))), x11])
      (wp_for (fun i ρ => ∃ x11, ρ = [.da (.list (ns.map .int)), .da (stD s), .da (.tuple (s.q.map tmD)), .da (.str (sg s.near)), .da (.str (sg s.shut)), .da (.int s.again), .da (.tuple (cs.map clD)), .da (.str (sg nd)), .da (stD (friL s nd)), .da (c1s c), .da (stD (friL s ((rem nd c).take i))), x11]) (ds := (rem nd c).map c1s) (seq_ok (d := .str (sg (rem nd c))) (rep_ok (by omega) h128) (by show some ((sg _).cps.toList.map _) = _; rw [sg_cps])) ⟨_, rfl⟩ (fun i d ρ hd hI => ?_) fun ρ hI => ?_) ?_
    · obtain ⟨x11, rfl⟩ := hI
      obtain ⟨c', hc', rfl⟩ := get_map hd
      have hm' := (mem_rem.mp (List.mem_of_getElem? hc')).1
      refine ⟨_, rfl, wp_seq (wp_set (fn2_ok rfl rfl (with_friend_ok (gL _ fun x hx => (mem_rem.mp (List.mem_of_mem_take hx)).1) (hrow.2 c' hm').1 (hrow.2 c' hm').2)) (wp_nil ?_))⟩
      rw [take_snoc hc', friL_snoc]
      exact ⟨_, rfl⟩
    · rw [List.length_map, List.take_length] at hI
      exact hI
    rintro _ ⟨x11, rfl⟩
    refine wp_seq (wp_no (bi_ok (fn2_ok rfl rfl (silent_ok (gL _ fun x hx => (mem_rem.mp hx).1) h)) rfl rfl (eq_nil _)) ?_ (wp_nil (wp_nil ⟨_, _, _, rfl⟩)))
    rw [List.isEmpty_map]
    unfold natI
    rw [List.isEmpty_map, hnd]
    have := fewer_friends h hmf
    cases q : silN (friL s (rem (fewL s cs) c)) cs with
    | nil => exact absurd q this
    | cons _ _ => rfl
  rintro _ ⟨x9, x10, x11, rfl⟩
  refine wp_seq (wp_no (nt_ok (fn2_ok rfl rfl (law_kinds_ok hs h))) rfl (wp_nil ?_))
  exact wp_seq (wp_ret (fn2_ok rfl rfl (law_times_ok hs h)) rfl)
end L21
open PySem PySem.W PyProof.Rows QB in
set_option maxHeartbeats 0 in
theorem PySem.Challenge.cw_quietbells_k21_whole_changing_holds : PySem.Challenge.rw_quietbells_k21_whole_changing.Holds := by
  w_on; o_law; k_head; (case hw => w_witness2)
  k_fill
  refine L2.walk_of (l := PySem.Challenge.rw_quietbells_k21_whole_changing) (n := 63) (k := 9) (x := "script") (CX := fun w => L2.CX PySem.Challenge.pw_quietbells_k21_whole_changing w) (sp := fun w => SpT L21.f_law) rfl (by decide) rfl ⟨rfl, by decide, by decide⟩ (fun w h Y => PySem.W.kIn_of Y) ?F ?S (fun _ _ _ _ _ h => cx_false h)
  case S => exact fun w H a ns hl _ hS => law_true (by rfl) hS (L21.law_holds ns hl)
  case F =>
    intro w mg fa h KX G hmg
    refine' L21.fin hmg
      (blt_mk KX G ?z0 ?z1 ?z2 ?z3 ?z4 ?z5 ?z6 ?z7 ?z8 ?z9 ?z10 ?z11 ?z12 ?z13 ?z14 ?z15 ?z16)
      (glb_str KX G ?g_AGAIN (by decide +kernel))
      (glb_str KX G ?g_ALWAYS (by decide +kernel))
      (glb_str KX G ?g_BLOCKED (by decide +kernel))
      (glb_str KX G ?g_CALLERS (by decide +kernel))
      (glb_int KX G ?g_DAY)
      (glb_str KX G ?g_DAYS (by decide +kernel))
      (glb_str KX G ?g_FREE (by decide +kernel))
      (glb_str KX G ?g_FRIEND (by decide +kernel))
      (glb_int KX G ?g_HOUR)
      (glb_int KX G ?g_MAX_AGAIN)
      (glb_int KX G ?g_MAX_CALLS)
      (glb_int KX G ?g_MAX_QUIET)
      (glb_str KX G ?g_NEVER (by decide +kernel))
      (glb_str KX G ?g_OTHER (by decide +kernel))
      (glb_str KX G ?g_QUIET (by decide +kernel))
      (glb_str KX G ?g_SOMETIMES (by decide +kernel))
      (glb_int KX G ?g_WEEK)
      (rai_mk KX G ?r0_InvalidCaller ?r1_InvalidCaller ?r2_InvalidCaller ?r3_InvalidCaller ?r4_InvalidCaller)
      (rai_mk KX G ?r0_InvalidCalls ?r1_InvalidCalls ?r2_InvalidCalls ?r3_InvalidCalls ?r4_InvalidCalls)
      (rai_mk KX G ?r0_InvalidMany ?r1_InvalidMany ?r2_InvalidMany ?r3_InvalidMany ?r4_InvalidMany)
      (rai_mk KX G ?r0_InvalidSettings ?r1_InvalidSettings ?r2_InvalidSettings ?r3_InvalidSettings ?r4_InvalidSettings)
      (fd_mk KX G ?a_is_int ?l_is_int ?c_is_int ?k_is_int (fun _ _ _ _ _ _ us hl => match us, hl with | [_, _, _], _ => rfl))
      (fd_mk KX G ?a_rises ?l_rises ?c_rises ?k_rises (fun _ _ _ _ _ _ us hl => match us, hl with | [_], _ => rfl))
      (fd_mk KX G ?a_is_row ?l_is_row ?c_is_row ?k_is_row (fun _ _ _ _ _ _ us hl => match us, hl with | [_, _], _ => rfl))
      (fd_mk KX G ?a_is_time ?l_is_time ?c_is_time ?k_is_time (fun _ _ _ _ _ _ us hl => match us, hl with | [_], _ => rfl))
      (fd_mk KX G ?a_is_settings ?l_is_settings ?c_is_settings ?k_is_settings (fun _ _ _ _ _ _ us hl => match us, hl with | [_], _ => rfl))
      (fd_mk KX G ?a_is_caller ?l_is_caller ?c_is_caller ?k_is_caller (fun _ _ _ _ _ _ us hl => match us, hl with | [_], _ => rfl))
      (fd_mk KX G ?a_is_call ?l_is_call ?c_is_call ?k_is_call (fun _ _ _ _ _ _ us hl => match us, hl with | [_], _ => rfl))
      (fd_mk KX G ?a_are_calls ?l_are_calls ?c_are_calls ?k_are_calls (fun _ _ _ _ _ _ us hl => match us, hl with | [_], _ => rfl))
      (fd_mk KX G ?a_check_settings ?l_check_settings ?c_check_settings ?k_check_settings (fun _ _ _ _ _ _ us hl => match us, hl with | [_], _ => rfl))
      (fd_mk KX G ?a_check_caller ?l_check_caller ?c_check_caller ?k_check_caller (fun _ _ _ _ _ _ us hl => match us, hl with | [_], _ => rfl))
      (fd_mk KX G ?a_check_calls ?l_check_calls ?c_check_calls ?k_check_calls (fun _ _ _ _ _ _ us hl => match us, hl with | [_, _], _ => rfl))
      (fd_mk KX G ?a_hours_of ?l_hours_of ?c_hours_of ?k_hours_of (fun _ _ _ _ _ _ us hl => match us, hl with | [_], _ => rfl))
      (fd_mk KX G ?a_find_hours ?l_find_hours ?c_find_hours ?k_find_hours (fun _ _ _ _ _ _ us hl => match us, hl with | [_], _ => rfl))
      (fd_mk KX G ?a_find_kind ?l_find_kind ?c_find_kind ?k_find_kind (fun _ _ _ _ _ _ us hl => match us, hl with | [_, _], _ => rfl))
      (fd_mk KX G ?a_kind_of ?l_kind_of ?c_kind_of ?k_kind_of (fun _ _ _ _ _ _ us hl => match us, hl with | [_, _], _ => rfl))
      (fd_mk KX G ?a_comes_again ?l_comes_again ?c_comes_again ?k_comes_again (fun _ _ _ _ _ _ us hl => match us, hl with | [_, _, _], _ => rfl))
      (fd_mk KX G ?a_find_reasons ?l_find_reasons ?c_find_reasons ?k_find_reasons (fun _ _ _ _ _ _ us hl => match us, hl with | [_, _], _ => rfl))
      (fd_mk KX G ?a_find_silent ?l_find_silent ?c_find_silent ?k_find_silent (fun _ _ _ _ _ _ us hl => match us, hl with | [_, _], _ => rfl))
      (fd_mk KX G ?a_silent ?l_silent ?c_silent ?k_silent (fun _ _ _ _ _ _ us hl => match us, hl with | [_, _], _ => rfl))
      (fd_mk KX G ?a_find_ringing ?l_find_ringing ?c_find_ringing ?k_find_ringing (fun _ _ _ _ _ _ us hl => match us, hl with | [_, _], _ => rfl))
      (fd_mk KX G ?a_ringing ?l_ringing ?c_ringing ?k_ringing (fun _ _ _ _ _ _ us hl => match us, hl with | [_, _], _ => rfl))
      (fd_mk KX G ?a_reached ?l_reached ?c_reached ?k_reached (fun _ _ _ _ _ _ us hl => match us, hl with | [_, _], _ => rfl))
      (fd_mk KX G ?a_add ?l_add ?c_add ?k_add (fun _ _ _ _ _ _ us hl => match us, hl with | [_, _], _ => rfl))
      (fd_mk KX G ?a_with_friend ?l_with_friend ?c_with_friend ?k_with_friend (fun _ _ _ _ _ _ us hl => match us, hl with | [_, _], _ => rfl))
      (fd_mk KX G ?a_with_blocked ?l_with_blocked ?c_with_blocked ?k_with_blocked (fun _ _ _ _ _ _ us hl => match us, hl with | [_, _], _ => rfl))
      (fd_mk KX G ?a_fewest_friends ?l_fewest_friends ?c_fewest_friends ?k_fewest_friends (fun _ _ _ _ _ _ us hl => match us, hl with | [_, _], _ => rfl))
      (fd_mk KX G ?a_least_again ?l_least_again ?c_least_again ?k_least_again (fun _ _ _ _ _ _ us hl => match us, hl with | [_, _, _], _ => rfl))
      (fd_mk KX G ?a_check_two ?l_check_two ?c_check_two ?k_check_two (fun _ _ _ _ _ _ us hl => match us, hl with | [_, _], _ => rfl))
      (fd_mk KX G ?a_find_effect ?l_find_effect ?c_find_effect ?k_find_effect (fun _ _ _ _ _ _ us hl => match us, hl with | [_, _, _], _ => rfl))
      (fd_mk KX G ?a_rings_more ?l_rings_more ?c_rings_more ?k_rings_more (fun _ _ _ _ _ _ us hl => match us, hl with | [_, _], _ => rfl))
      (fd_mk KX G ?a__law_drawn ?l__law_drawn ?c__law_drawn ?k__law_drawn (fun _ _ _ _ _ _ us hl => match us, hl with | [_, _, _], _ => rfl))
      (fd_mk KX G ?a__law_settings ?l__law_settings ?c__law_settings ?k__law_settings (fun _ _ _ _ _ _ us hl => match us, hl with | [_, _], _ => rfl))
      (fd_mk KX G ?a__law_calls ?l__law_calls ?c__law_calls ?k__law_calls (fun _ _ _ _ _ _ us hl => match us, hl with | [_, _, _, _], _ => rfl))
      (fd_mk KX G ?a__law_times ?l__law_times ?c__law_times ?k__law_times (fun _ _ _ _ _ _ us hl => match us, hl with | [_, _], _ => rfl))
      (fd_mk KX G ?a__law_kinds ?l__law_kinds ?c__law_kinds ?k__law_kinds (fun _ _ _ _ _ _ us hl => match us, hl with | [_, _], _ => rfl))
      (fl_mk KX G ?a_law ?l_law ?c_law ?k_law (fun _ _ _ _ _ _ _ => rfl))
    (case z0 => k_is); (case z1 => k_is); (case z2 => k_is); (case z3 => k_is); (case z4 => k_is); (case z5 => k_is); (case z6 => k_is); (case z7 => k_is)
    (case z8 => k_is); (case z9 => k_is); (case z10 => k_is); (case z11 => k_is); (case z12 => k_is); (case z13 => k_is); (case z14 => k_is); (case z15 => k_is)
    (case z16 => k_is); (case g_AGAIN => k_is); (case g_ALWAYS => k_is); (case g_BLOCKED => k_is); (case g_CALLERS => k_is); (case g_DAY => k_is); (case g_DAYS => k_is); (case g_FREE => k_is)
    (case g_FRIEND => k_is); (case g_HOUR => k_is); (case g_MAX_AGAIN => k_is); (case g_MAX_CALLS => k_is); (case g_MAX_QUIET => k_is); (case g_NEVER => k_is); (case g_OTHER => k_is); (case g_QUIET => k_is)
    (case g_SOMETIMES => k_is); (case g_WEEK => k_is); (case r0_InvalidCaller => k_is); (case r1_InvalidCaller => k_exc); (case r2_InvalidCaller => k_is); (case r3_InvalidCaller => k_is); (case r4_InvalidCaller => k_is); (case r0_InvalidCalls => k_is)
    (case r1_InvalidCalls => k_exc); (case r2_InvalidCalls => k_is); (case r3_InvalidCalls => k_is); (case r4_InvalidCalls => k_is); (case r0_InvalidMany => k_is); (case r1_InvalidMany => k_exc); (case r2_InvalidMany => k_is); (case r3_InvalidMany => k_is)
    (case r4_InvalidMany => k_is); (case r0_InvalidSettings => k_is); (case r1_InvalidSettings => k_exc); (case r2_InvalidSettings => k_is); (case r3_InvalidSettings => k_is); (case r4_InvalidSettings => k_is); (case a_is_int => k_is); (case l_is_int => k_is)
    (case c_is_int => k_is); (case k_is_int => k_is); (case a_rises => k_is); (case l_rises => k_is); (case c_rises => k_is); (case k_rises => k_is); (case a_is_row => k_is); (case l_is_row => k_is)
    (case c_is_row => k_is); (case k_is_row => k_is); (case a_is_time => k_is); (case l_is_time => k_is); (case c_is_time => k_is); (case k_is_time => k_is); (case a_is_settings => k_is); (case l_is_settings => k_is)
    (case c_is_settings => k_is); (case k_is_settings => k_is); (case a_is_caller => k_is); (case l_is_caller => k_is); (case c_is_caller => k_is); (case k_is_caller => k_is); (case a_is_call => k_is); (case l_is_call => k_is)
    (case c_is_call => k_is); (case k_is_call => k_is); (case a_are_calls => k_is); (case l_are_calls => k_is); (case c_are_calls => k_is); (case k_are_calls => k_is); (case a_check_settings => k_is); (case l_check_settings => k_is)
    (case c_check_settings => k_is); (case k_check_settings => k_is); (case a_check_caller => k_is); (case l_check_caller => k_is); (case c_check_caller => k_is); (case k_check_caller => k_is); (case a_check_calls => k_is); (case l_check_calls => k_is)
    (case c_check_calls => k_is); (case k_check_calls => k_is); (case a_hours_of => k_is); (case l_hours_of => k_is); (case c_hours_of => k_is); (case k_hours_of => k_is); (case a_find_hours => k_is); (case l_find_hours => k_is)
    (case c_find_hours => k_is); (case k_find_hours => k_is); (case a_find_kind => k_is); (case l_find_kind => k_is); (case c_find_kind => k_is); (case k_find_kind => k_is); (case a_kind_of => k_is); (case l_kind_of => k_is)
    (case c_kind_of => k_is); (case k_kind_of => k_is); (case a_comes_again => k_is); (case l_comes_again => k_is); (case c_comes_again => k_is); (case k_comes_again => k_is); (case a_find_reasons => k_is); (case l_find_reasons => k_is)
    (case c_find_reasons => k_is); (case k_find_reasons => k_is); (case a_find_silent => k_is); (case l_find_silent => k_is); (case c_find_silent => k_is); (case k_find_silent => k_is); (case a_silent => k_is); (case l_silent => k_is)
    (case c_silent => k_is); (case k_silent => k_is); (case a_find_ringing => k_is); (case l_find_ringing => k_is); (case c_find_ringing => k_is); (case k_find_ringing => k_is); (case a_ringing => k_is); (case l_ringing => k_is)
    (case c_ringing => k_is); (case k_ringing => k_is); (case a_reached => k_is); (case l_reached => k_is); (case c_reached => k_is); (case k_reached => k_is); (case a_add => k_is); (case l_add => k_is)
    (case c_add => k_is); (case k_add => k_is); (case a_with_friend => k_is); (case l_with_friend => k_is); (case c_with_friend => k_is); (case k_with_friend => k_is); (case a_with_blocked => k_is); (case l_with_blocked => k_is)
    (case c_with_blocked => k_is); (case k_with_blocked => k_is); (case a_fewest_friends => k_is); (case l_fewest_friends => k_is); (case c_fewest_friends => k_is); (case k_fewest_friends => k_is); (case a_least_again => k_is); (case l_least_again => k_is)
    (case c_least_again => k_is); (case k_least_again => k_is); (case a_check_two => k_is); (case l_check_two => k_is); (case c_check_two => k_is); (case k_check_two => k_is); (case a_find_effect => k_is); (case l_find_effect => k_is)
    (case c_find_effect => k_is); (case k_find_effect => k_is); (case a_rings_more => k_is); (case l_rings_more => k_is); (case c_rings_more => k_is); (case k_rings_more => k_is); (case a__law_drawn => k_is); (case l__law_drawn => k_is)
    (case c__law_drawn => k_is); (case k__law_drawn => k_is); (case a__law_settings => k_is); (case l__law_settings => k_is); (case c__law_settings => k_is); (case k__law_settings => k_is); (case a__law_calls => k_is); (case l__law_calls => k_is)
    (case c__law_calls => k_is); (case k__law_calls => k_is); (case a__law_times => k_is); (case l__law_times => k_is); (case c__law_times => k_is); (case k__law_times => k_is); (case a__law_kinds => k_is); (case l__law_kinds => k_is)
    (case c__law_kinds => k_is); (case k__law_kinds => k_is); (case a_law => k_is); (case l_law => k_is); (case c_law => k_is); (case k_law => k_is)
