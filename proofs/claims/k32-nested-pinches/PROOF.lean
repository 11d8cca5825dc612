import PyProof.Rows.All
import Wide.All
import OpenK.AllK
import Wide.FinOn
import HandS.ForMost
import HandS.TupAny
import HandS.Wide
import HandS.IsInst
import HandS.Conv
import HandS.Style
import HandS.Zip
import HandS.StrMore
import HandS.Replace
import KE.SortData
import HandS.Property
import HandS.RaiseMore
import HandS.Walk
import KE.DatumOrd
import HandS.TupLe
import PyProof.Rows.RuleB_pow
import PyProof.ReprReads
import PyProof.ReprRoads
import PyProof.CallFns
import HandS.Flow
import KE.GoesMore
import HandS.Star
import HandS.Ends
import HandS.Text
import KE.RegKIsAll
import PySem.Challenge.RW_emptywords_k32_whole_nested_pinches
set_option Elab.async false
set_option linter.all false
set_option maxRecDepth 100000
set_option maxHeartbeats 4000000
/-! An evaluator of our own for a part of Python: trees for values, slots for names. -/
namespace Ev
open PySem L2

inductive Tr where
  | non | bl (b : Bool) | int (i : Int) | str (s : Str)
  | tup (l : List Tr) | lst (l : List Tr) | flst (l : List Tr)
  | dk (ks : List Key) (vs : List Tr) | dt (ks : List (List Key)) (vs : List Tr)
  | ins (c : Str) (ns : List Str) (l : List Tr)
  | ob (n : Nat) | bor (i : Nat)

/-- what stands in memory and may change: a list, a dict (keys ints and texts; tuples of such), an instance -/
inductive Ob where
  | lst (l : List Tr) | dk (ks : List Key) (vs : List Tr) | dt (ks : List (List Key)) (vs : List Tr)
  | ins (c : Str) (ns : List Str) (l : List Tr) | gone
def Ob.tr : Ob → Tr
  | .lst l => .lst l
  | .dk ks vs => .dk ks vs
  | .dt ks vs => .dt ks vs
  | .ins c ns l => .ins c ns l
  | .gone => .non
inductive Slot where
  | none | val (t : Tr) | own (o : Ob)
structure Sta where
  env : List Slot
  mem : List Ob

inductive Op where | add | sub | mul | fdiv | mod | pow
inductive Cp where | eq | ne | lt | le | gt | ge | isN | notN | inn | nin
inductive Bi where | len | abs | int | sum | max2 | min2 | listRg | listOf | tupOf | all | any | repr | isInt | isBool | isStr | isTup | strOf | minOf | maxOf | sorted
/-- methods of built-in things -/
inductive Mt where | split | join | index | zfill | get
inductive Tg where
  | nm (i : Nat) | tp (l : List Tg)
inductive Ex where
  | var (i : Nat) | mv (i : Nat) | gl (k : Nat) | int (i : Int) | str (s : Str) | bl (b : Bool) | non | nul
  | tup (es : List Ex) | lst (es : List Ex) | shd (es : List Ex)
  | bin (o : Op) (a b : Ex) | neg (a : Ex) | cmp (o : Cp) (a b : Ex) | chain (o p : Cp) (a b c : Ex)
  | and_ (a b : Ex) | or_ (a b : Ex) | not_ (a : Ex) | ite (c a b : Ex)
  | idx (a b : Ex) | sl (a lo hi : Ex) | rev (a : Ex)
  | call (f : Nat) (es : List Ex)
  | bi (b : Bi) (es : List Ex)
  | pop (i : Nat)
  | comp (k : Nat) (elt : Ex) (tg : Tg) (its : List Ex) (cond : Ex) (own : List Nat)
  | bad | disp (k : Nat) (bs : List Bool) (es : List Ex) | callK (f : Nat) (es ks : List Ex)
  | orV (a b : Ex) | fld (a : Ex) (f : Str) | isC (c : Str) (a : Ex) | make (f : Nat) (es : List Ex)
  | callP (f : Nat) (es ks : List Ex) (ps : List Nat)
  | dsp (es : List Ex) | meth (m : Mt) (a : Ex) (es : List Ex) | popAt (i : Nat) (e : Ex)
inductive Sm where
  | set (i : Nat) (e : Ex) | own (i : Nat) (es : List Ex) | ownOf (i : Nat) (e : Ex)
  | ownD (i : Nat) (t : Bool) | dput (i : Nat) (k v : Ex) | fset (o : Ex) (f : Str) (e : Ex) | setAt (i : Nat) (k v : Ex) | ownE (i : Nat) (e : Ex)
  | many (is : List (Nat × Nat)) (es : List Ex)
  | tgt (tg : Tg) (e : Ex)
  | aug (i : Nat) (o : Op) (e : Ex)
  | put (o k v : Ex)
  | app (i : Nat) (e : Ex) | ext (i : Nat) (e : Ex) | ex (e : Ex)
  | ret (e : Ex) | retN
  | ite (c : Ex) (a b : List Sm)
  | forr (k : Nat) (tg : Tg) (its : List Ex) (b : List Sm)
  | whl (c : Ex) (b : List Sm)
  | brk | cont | pass | bad

inductive Rs (α : Type) where
  | ok (a : α) (s : Sta) | no
def Rs.bind {α β : Type} : Rs α → (α → Sta → Rs β) → Rs β
  | .ok a s, f => f a s
  | .no, _ => .no
theorem Rs.bind_ok {α β : Type} (a : α) (s : Sta) (f : α → Sta → Rs β) : (Rs.ok a s).bind f = f a s := rfl
theorem Rs.bind_no {α β : Type} (f : α → Sta → Rs β) : (Rs.no : Rs α).bind f = .no := rfl
theorem Rs.bind_eq {α β : Type} {r : Rs α} {f : α → Sta → Rs β} {b : β} {s' : Sta} (h : r.bind f = .ok b s') : ∃ a s, r = .ok a s ∧ f a s = .ok b s' := by
  cases r with
  | ok a s => exact ⟨a, s, rfl, h⟩
  | no => exact nomatch h
def Rs.of {α : Type} : Option α → Sta → Rs α
  | some a, s => .ok a s
  | none, _ => .no
theorem Rs.of_eq {α : Type} {o : Option α} {s s' : Sta} {a : α} (h : Rs.of o s = .ok a s') : o = some a ∧ s = s' := by
  cases o with
  | some b => injection h with h1 h2; subst h1 h2; exact ⟨rfl, rfl⟩
  | none => exact nomatch h

/-! ### values -/
def Tr.pure : Tr → Bool
  | .bor _ => false
  | _ => true
def Sta.deref (s : Sta) : Tr → Tr
  | .bor i => match s.env[i]? with
    | some (.own o) => o.tr
    | some (.val t) => t
    | _ => .bor i
  | t => t
mutual
def Tr.data : Tr → Option PyData
  | .non => some .none
  | .bl b => some (.bool b)
  | .int i => some (.int i)
  | .str s => some (.str s)
  | .tup l => match datas l with
    | some ds => some (.tuple ds)
    | none => none
  | .lst l => match datas l with
    | some ds => some (.list ds)
    | none => none
  | .flst l => match datas l with
    | some ds => some (.list ds)
    | none => none
  | .dk _ _ => none
  | .dt _ _ => none
  | .ins _ _ _ => none
  | .ob _ => none
  | .bor _ => none
def datas : List Tr → Option (List PyData)
  | [] => some []
  | t :: l => match t.data, datas l with
    | some d, some ds => some (d :: ds)
    | _, _ => none
end
def eqD (x y : Tr) : Option Bool := match x.data, y.data with
  | some d, some e => if SeqAt.shaped d && SeqAt.shaped e then some (PyData.eqv d e) else none
  | _, _ => none
def eqT (x y : Tr) : Option Bool := match x, y with
  | .str a, .str b => some (decide (a = b))
  | .int a, .int b => some (decide (a = b))
  | x, y => eqD x y
def reprT (x : Tr) : Option Tr := match x.data with
  | some d => if d.showable && decide (d.shown.length ≤ sizeLine) && decide (d.depth ≤ 64) then some (.str d.shown) else none
  | none => none
/-! ### dicts, instances -/
def keyT : Tr → Option Key
  | .int i => some (.inl i)
  | .str x => some (.inr x)
  | _ => none
def keysT : List Tr → Option (List Key)
  | [] => some []
  | t :: l => match keyT t, keysT l with
    | some k, some ks => some (k :: ks)
    | _, _ => none
def getK {κ : Type} [DecidableEq κ] (x : κ) : List κ → List Tr → Option Tr
  | k :: ks, v :: vs => if k = x then some v else getK x ks vs
  | _, _ => none
def putV {κ : Type} [DecidableEq κ] (ks : List κ) (vs : List Tr) (x : κ) (t : Tr) : List κ × List Tr :=
  if ks.any (fun k => decide (k = x)) = true then (ks, List.zipWith (fun k v => if k = x then t else v) ks vs) else (ks ++ [x], vs ++ [t])
/-- an attribute is stored -/
def setF : List Str → List Tr → Str → Tr → List Str × List Tr
  | n :: ns, x :: l, f, t => if n = f then (n :: ns, t :: l) else (n :: (setF ns l f t).1, x :: (setF ns l f t).2)
  | _, _, f, t => ([f], [t])
/-- a look-up: none where it is none of ours -/
def dgetT : Tr → Tr → Option (Option Tr)
  | .dk ks vs, y => (keyT y).map fun k => getK k ks vs
  | .dt ks vs, .tup l => (keysT l).map fun k => getK k ks vs
  | _, _ => none
/-- the pairs of a display, flat -/
def dspT : List Tr → Option (List Key × List Tr)
  | [] => some ([], [])
  | k :: v :: r => match keyT k, dspT r with
    | some k, some (ks, vs) => some (k :: ks, v :: vs)
    | _, _ => none
  | _ => none
/-- is it an instance of one of our classes -/
def isCT (c : Str) : Tr → Option Tr
  | .ins c' _ _ => some (.bl (decide (c' = c)))
  | .non => some (.bl false)
  | .bl _ => some (.bl false)
  | .int _ => some (.bl false)
  | .str _ => some (.bl false)
  | .tup _ => some (.bl false)
  | .lst _ => some (.bl false)
  | .dk _ _ => some (.bl false)
  | _ => none
def flat : Tr → Option V
  | .non => some .non
  | .bl b => some (.bl b)
  | .int i => some (.int i)
  | .str s => some (.str s)
  | _ => none
def flats : List Tr → Option (List V)
  | [] => some []
  | t :: l => match flat t, flats l with
    | some v, some vs => some (v :: vs)
    | _, _ => none
/-- x among data of any depth -/
def inQ (x y : Tr) : Option Bool := match x.data, y.data with
  | some d, some (.list ds) => if SeqAt.shaped d && SeqAt.shaped (.list ds) && decide (d.depth ≤ 60) then some (ds.any fun z => PyData.eqv z d) else none
  | some d, some (.tuple ds) => if SeqAt.shaped d && SeqAt.shaped (.tuple ds) && decide (d.depth ≤ 60) then some (ds.any fun z => PyData.eqv z d) else none
  | _, _ => none
def inT (x y : Tr) : Option Bool := match y with
  | .tup l | .lst l | .flst l => match flat x, flats l with
    | some v, some vs => some (inV v vs)
    | _, _ => inQ x y
  | .str z => match x with
    | .str y => some (!(Builtin.Str.occurrences z y 0 z.length 1).isEmpty)
    | _ => none
  | .dk ks vs => (dgetT (.dk ks vs) x).map Option.isSome
  | .dt ks vs => (dgetT (.dt ks vs) x).map Option.isSome
  | _ => none
def opB : Op → Tr → Tr → Option Tr
  | .add, .int i, .int j => some (.int (i + j))
  | .add, .str a, .str b => if a.length + b.length ≤ sizeLine then some (.str (a ++ b)) else none
  | .add, .tup a, .tup b => if a.length + b.length ≤ sizeLine then some (.tup (a ++ b)) else none
  | .add, .lst a, .lst b => if a.length + b.length ≤ sizeLine then some (.lst (a ++ b)) else none
  | .sub, .int i, .int j => some (.int (i - j))
  | .mul, .int i, .int j => if i.natAbs.log2 + j.natAbs.log2 < 1000000 then some (.int (i * j)) else none
  | .mul, .lst l, .int k => if -(2 ^ 63) ≤ k ∧ k < 2 ^ 63 ∧ l.length * k.toNat ≤ sizeLine then some (.lst (List.replicate k.toNat l).flatten) else none
  | .fdiv, .int i, .int j => if 0 < j ∧ j.natAbs.log2 < 9000 then some (.int (i / j)) else none
  | .mod, .int i, .int j => if 0 < j then some (.int (i % j)) else none
  | .pow, .int i, .int j => if 0 ≤ j ∧ (Builtin.Int.intBits i : Int) * j ≤ 2 ^ 27 then some (.int (i ^ j.toNat)) else none
  | _, _, _ => none
def opC : Cp → Tr → Tr → Option Bool
  | .eq, x, y => eqT x y
  | .ne, x, y => (eqT x y).map (!·)
  | .lt, .int i, .int j => some (decide (i < j))
  | .le, .int i, .int j => some (decide (i ≤ j))
  | .gt, .int i, .int j => some (decide (j < i))
  | .ge, .int i, .int j => some (decide (j ≤ i))
  | .isN, x, .non => match x with
    | .non => some true
    | _ => some false
  | .notN, x, .non => match x with
    | .non => some false
    | _ => some true
  | .isN, .bl a, .bl b => some (decide (a = b))
  | .notN, .bl a, .bl b => some (!decide (a = b))
  | .inn, x, y => inT x y
  | .nin, x, y => (inT x y).map (!·)
  | _, _, _ => none
def opC2 (o : Cp) (x y : Tr) : Option Bool := if x.pure && y.pure then opC o x y else none
def truth : Tr → Option Bool
  | .non => some false
  | .bl b => some b
  | .int i => some (i != 0)
  | .tup l => some !l.isEmpty
  | .lst l => some !l.isEmpty
  | .str x => if x.length ≤ sizeLine then some ((x.length : Int) != 0) else none
  | _ => none
def idxT : Tr → Tr → Option Tr
  | .tup l, .int i => atI l i
  | .lst l, .int i => atI l i
  | .flst l, .int i => atI l i
  | .str z, .int i => if z.length ≤ sizeLine then (atI z.cps.toList i).map fun c => .str ⟨#[c]⟩ else none
  | .dk ks vs, y => (dgetT (.dk ks vs) y).bind id
  | .dt ks vs, y => (dgetT (.dt ks vs) y).bind id
  | _, _ => none
def cutT (l : List Tr) (lo hi : Option Int) : List Tr := (l.drop (HT.sIx l.length 0 lo)).take (HT.sIx l.length l.length hi - HT.sIx l.length 0 lo)
def slT : Tr → Option Int → Option Int → Option Tr
  | .tup l, lo, hi => some (.tup (cutT l lo hi))
  | .lst l, lo, hi => some (.lst (cutT l lo hi))
  | .flst l, lo, hi => some (.lst (cutT l lo hi))
  | .str z, lo, hi => if z.length ≤ sizeLine then some (.str (cutS z lo hi)) else none
  | _, _, _ => none
def intsOf : List Tr → Option (List Int)
  | [] => some []
  | .int i :: l => match intsOf l with
    | some is => some (i :: is)
    | none => none
  | _ => none
def boolsOf : List Tr → Option (List Bool)
  | [] => some []
  | .bl i :: l => match boolsOf l with
    | some is => some (i :: is)
    | none => none
  | _ => none
/-- a number's size, so that no checker unfolds it -/
def in62 (n : Int) : Bool := Nat.blt n.natAbs.log2 61
theorem in62_ok {n : Int} (h : in62 n = true) : -(2 ^ 62) ≤ n ∧ n < 2 ^ 62 := by
  have h1 : n.natAbs.log2 < 61 := by simpa [in62, Nat.blt_eq] using h
  have h2 : n.natAbs < 2 ^ 61 := Nat.lt_of_lt_of_le Nat.lt_log2_self (Nat.pow_le_pow_right (by omega) h1)
  omega
theorem in62_of {n : Int} (h : n.natAbs < 2 ^ 61) : in62 n = true := by
  have h1 : n.natAbs.log2 < 61 := by
    by_cases z : n.natAbs = 0
    · rw [z]; decide
    · exact (Nat.log2_lt z).mpr h
  simpa [in62, Nat.blt_eq] using h1
def strsOf : List Tr → Option (List Str)
  | [] => some []
  | .str i :: l => match strsOf l with
    | some is => some (i :: is)
    | none => none
  | _ => none
def minI : Int → List Int → Int
  | m, [] => m
  | m, x :: l => minI (if x < m then x else m) l
def maxI : Int → List Int → Int
  | m, [] => m
  | m, x :: l => maxI (if m < x then x else m) l
/-- sorted: the data that the items are, in the order of the data -/
def dat (t : Tr) : PyData := t.data.getD .none
def isTup1 : PyData → Bool
  | .tuple (_ :: _) => true
  | _ => false
def notTupN : PyData → Bool
  | .tuple _ => false
  | .none => false
  | _ => true
def sortOk (l : List Tr) : Bool := l.all (fun t => t.data.isSome && decide ((dat t).depth ≤ 64)) && (l.map dat).all (fun d => (l.map dat).all fun d' => PySem.W.alike d d') && ((l.map dat).all isTup1 || (l.map dat).all notTupN)
def sortT (l : List Tr) : Option Tr := if sortOk l = true then some (.lst (l.mergeSort (PySem.W.dataLe false dat))) else none
def rgT (a b : Int) : List Tr := (List.range (b - a).toNat).map fun (i : Nat) => Tr.int (a + i)
def biT : Bi → List Tr → Option Tr
  | .len, [.tup l] => some (.int l.length)
  | .len, [.lst l] => some (.int l.length)
  | .len, [.flst l] => some (.int l.length)
  | .len, [.str z] => if z.length ≤ sizeLine then some (.int z.length) else none
  | .len, [.dk ks _] => some (.int ks.length)
  | .strOf, [.int i] => if i.natAbs.log2 < 1920 then some (.str (toString i)) else none
  | .strOf, [.str x] => some (.str x)
  | .minOf, [.tup l] => match intsOf l with
    | some (i :: is) => some (.int (minI i is))
    | _ => none
  | .minOf, [.lst l] => match intsOf l with
    | some (i :: is) => some (.int (minI i is))
    | _ => none
  | .maxOf, [.lst l] => match intsOf l with
    | some (i :: is) => some (.int (maxI i is))
    | _ => none
  | .maxOf, [.tup l] => match intsOf l with
    | some (i :: is) => some (.int (maxI i is))
    | _ => none
  | .sorted, [.lst l] => sortT l
  | .sorted, [.flst l] => sortT l
  | .abs, [.int i] => some (.int (if i < 0 then -i else i))
  | .int, [.int i] => some (.int i)
  | .int, [.bl k] => some (.int (if k then 1 else 0))
  | .int, [.str z] => match PySem.intText? z with
    | some n => if z.length ≤ 640 then some (.int n) else none
    | none => none
  | .sum, [.lst l] => (intsOf l).map fun is => .int is.sum
  | .sum, [.flst l] => (intsOf l).map fun is => .int is.sum
  | .max2, [.int i, .int j] => some (.int (if j > i then j else i))
  | .min2, [.int i, .int j] => some (.int (if j < i then j else i))
  | .listRg, [.int n] => if decide (0 ≤ n) && Nat.ble n.natAbs 16777216 then some (.lst (rgT 0 n)) else none
  | .listOf, [.tup l] => some (.lst l)
  | .listOf, [.lst l] => some (.lst l)
  | .listOf, [.flst l] => some (.lst l)
  | .tupOf, [.tup l] => some (.tup l)
  | .tupOf, [.lst l] => some (.tup l)
  | .tupOf, [.flst l] => some (.tup l)
  | .all, [.lst l] => (boolsOf l).map fun bs => .bl (bs.all id)
  | .any, [.lst l] => (boolsOf l).map fun bs => .bl (bs.any id)
  | .repr, [x] => reprT x
  | .isInt, [x] => match x with
    | .int _ => some (.bl true)
    | .bl _ => some (.bl true)
    | .ob _ => none
    | .bor _ => none
    | .flst _ => none
    | .dt _ _ => none
    | .ins _ _ _ => none
    | _ => some (.bl false)
  | .isBool, [x] => match x with
    | .bl _ => some (.bl true)
    | .ob _ => none
    | .bor _ => none
    | .flst _ => none
    | .dt _ _ => none
    | .ins _ _ _ => none
    | _ => some (.bl false)
  | .isStr, [x] => match x with
    | .str _ => some (.bl true)
    | .ob _ => none
    | .bor _ => none
    | .flst _ => none
    | .dt _ _ => none
    | .ins _ _ _ => none
    | _ => some (.bl false)
  | .isTup, [x] => match x with
    | .tup _ => some (.bl true)
    | .ob _ => none
    | .bor _ => none
    | .flst _ => none
    | .dt _ _ => none
    | .ins _ _ _ => none
    | _ => some (.bl false)
  | _, _ => none
/-- arguments in the parameters' sequence -/
def pick {α : Type} (ps : List Nat) (us : List α) : List α := ps.filterMap fun i => us[i]?
def joinT (a : Str) (l : List Tr) : Option Tr := match strsOf l with
  | some ys => if (ys.map (·.length)).sum + ys.length * a.length ≤ 16777216 then some (.str (Txt.join a ys)) else none
  | none => none
def mtT : Mt → Tr → List Tr → Option Tr
  | .split, .str a, [.str b] => if (b.length == 0) = false ∧ a.length + 2 ≤ sizeLine then some (.lst ((Txt.split a b).map .str)) else none
  | .join, .str a, [.lst l] => joinT a l
  | .join, .str a, [.tup l] => joinT a l
  | .index, .str a, [.str b] => match Builtin.Str.occurrences a b 0 a.length 1 with
    | i :: _ => some (.int (i : Nat))
    | [] => none
  | .zfill, .str a, [.int i] => if PadOk i = true then some (.str (Txt.zfill a i)) else none
  | .get, d, [y] => (dgetT d y).map fun o => o.getD .non
  | .get, d, [y, z] => if (flat z).isSome = true then (dgetT d y).map fun o => o.getD z else none
  | _, _, _ => none
/-- what a method's receiver is -/
def recvOk : Mt → Tr → Bool
  | .get, .dk _ _ => true
  | .get, .dt _ _ => true
  | .get, _ => false
  | _, .str _ => true
  | _, _ => false
def seqT : Tr → Option (List Tr)
  | .tup l => some l
  | .lst l => some l
  | .flst l => some l
  | _ => none
def enumT (l : List Tr) : List Tr := (List.range l.length).zipWith (fun (i : Nat) x => .tup [.int i, x]) l
def zipT (l m : List Tr) : List Tr := l.zipWith (fun x y => .tup [x, y]) m
/-- what a loop walks: 0 a sequence, 1 range(n), 2 range(a, b), 3 enumerate, 4 zip -/
def items : Nat → List Tr → Option (List Tr)
  | 0, [.str z] => some (z.cps.toList.map fun c => .str ⟨#[c]⟩)
  | 0, [t] => seqT t
  | 1, [.int n] => if in62 n then some (rgT 0 n) else none
  | 2, [.int a, .int b] => if in62 a && in62 b then some (rgT a b) else none
  | 3, [t] => (seqT t).map enumT
  | 4, [.tup l, .tup m] => some (zipT l m)
  | 4, [.lst l, .lst m] => some (zipT l m)
  | _, _ => none
mutual
def asg : Tg → Tr → List Slot → Option (List Slot)
  | .nm i, t, env => if t.pure && decide (i < env.length) then some (env.set i (.val t)) else none
  | .tp gs, .tup l, env => asgs gs l env
  | .tp _, _, _ => none
def asgs : List Tg → List Tr → List Slot → Option (List Slot)
  | [], [], env => some env
  | g :: gs, t :: l, env => match asg g t env with
    | some env' => asgs gs l env'
    | none => none
  | _, _, _ => none
end
def Slot.lock : Slot → Slot
  | .own _ => .none
  | s => s
def wipeE (env : List Slot) : List Nat → List Slot
  | [] => env
  | v :: vs => (wipeE env vs).set v .none
def isNul : Ex → Bool
  | .nul => true
  | _ => false
/-- a comprehension's turns: what is made so far, backward order not used -/
def compGo (f : Tr → List Ob → Option (Option Tr × List Ob)) : List Tr → List Ob → List Tr → Option (List Tr × List Ob)
  | [], m, acc => some (acc, m)
  | x :: xs, m, acc => match f x m with
    | some (some y, m') => if acc.length < sizeLine then compGo f xs m' (acc ++ [y]) else none
    | some (none, m') => compGo f xs m' acc
    | none => none

def compF (tg : Tg) (env0 : List Slot) (cnd el : Sta → Rs Tr) (x : Tr) (m : List Ob) : Option (Option Tr × List Ob) := match asg tg x env0 with
  | some env1 => match cnd ⟨env1, m⟩ with
    | .ok (.bl true) s2 => (match el s2 with
      | .ok y s3 => if y.pure then some (some y, s3.mem) else none
      | .no => none)
    | .ok (.bl false) s2 => some (none, s2.mem)
    | _ => none
  | none => none
abbrev CF := Nat → List Tr → List Ob → Option (Tr × List Ob)
def fin : Bool → Rs Tr → Rs Tr
  | false, r => r
  | true, r => r.bind fun x s1 => Rs.of ((truth (s1.deref x)).map Tr.bl) s1
def asInt : Rs Tr → Rs (Option Int)
  | .ok (.int i) s => .ok (some i) s
  | _ => .no
section
variable (gc : Nat → Option Tr) (cf : CF)
mutual
def evX : Ex → Bool → Sta → Rs Tr
  | .var i, md, s => fin md (match s.env[i]? with
    | some (.val t) => .ok t s
    | some (.own _) => .ok (.bor i) s
    | _ => .no)
  | .mv i, md, s => fin md (match s.env[i]? with
    | some (.own o) => .ok o.tr ⟨s.env.set i (.val o.tr), s.mem⟩
    | _ => .no)
  | .gl k, md, s => fin md (Rs.of (gc k) s)
  | .int i, md, s => fin md (.ok (.int i) s)
  | .str x, md, s => fin md (.ok (.str x) s)
  | .bl b, md, s => fin md (.ok (.bl b) s)
  | .non, md, s => fin md (.ok .non s)
  | .nul, _, _ => .no
  | .tup es, md, s => fin md ((evEs es s).bind fun ts s1 => if ts.all Tr.pure && decide (ts.length ≤ sizeLine) then .ok (.tup ts) s1 else .no)
  | .lst es, md, s => fin md ((evEs es s).bind fun ts s1 => if ts.all Tr.pure && decide (ts.length ≤ sizeLine) then .ok (.lst ts) s1 else .no)
  | .shd es, md, s => fin md ((evEs es s).bind fun ts s1 => if ts.all Tr.pure && decide (ts.length ≤ sizeLine) then .ok (.ob s1.mem.length) ⟨s1.env, s1.mem ++ [.lst ts]⟩ else .no)
  | .bin o a b, md, s => fin md ((evX a false s).bind fun x s1 => (evX b false s1).bind fun y s2 => Rs.of (opB o (s2.deref x) (s2.deref y)) s2)
  | .neg a, md, s => fin md ((evX a false s).bind fun x s1 => match x with
    | .int i => .ok (.int (-i)) s1
    | _ => .no)
  | .cmp o a b, md, s => fin md ((evX a false s).bind fun x s1 => (evX b false s1).bind fun y s2 => Rs.of ((opC2 o (s2.deref x) (s2.deref y)).map Tr.bl) s2)
  | .chain o p a b c, md, s => fin md ((evX a false s).bind fun x s1 => (evX b false s1).bind fun y s2 => match opC2 o (s2.deref x) (s2.deref y) with
    | some true => (evX c false s2).bind fun z s3 => Rs.of ((opC2 p (s3.deref y) (s3.deref z)).map Tr.bl) s3
    | some false => .ok (.bl false) s2
    | none => .no)
  | .and_ a b, md, s => (evX a md s).bind fun x s1 => match x with
    | .bl true => evX b md s1
    | .bl false => .ok (.bl false) s1
    | _ => .no
  | .or_ a b, md, s => (evX a md s).bind fun x s1 => match x with
    | .bl false => evX b md s1
    | .bl true => .ok (.bl true) s1
    | _ => .no
  | .not_ a, md, s => (match md with
      | true => evX a true s
      | false => fin true (evX a false s)).bind fun x s1 => match x with
    | .bl b => .ok (.bl !b) s1
    | _ => .no
  | .ite c a b, md, s => (evX c true s).bind fun x s1 => match x with
    | .bl true => evX a md s1
    | .bl false => evX b md s1
    | _ => .no
  | .idx a b, md, s => fin md ((evX a false s).bind fun x s1 => (evX b false s1).bind fun y s2 => match s2.deref x with
    | .ob n => match s2.mem[n]? with
      | some (.lst l) => Rs.of (idxT (.lst l) y) s2
      | _ => .no
    | t => Rs.of (idxT t (s2.deref y)) s2)
  | .sl a lo hi, md, s => fin md ((evX a false s).bind fun x s1 => (if isNul lo then .ok none s1 else asInt (evX lo false s1)).bind fun l s2 =>
      (if isNul hi then .ok none s2 else asInt (evX hi false s2)).bind fun h s3 => Rs.of (slT (s3.deref x) l h) s3)
  | .rev a, md, s => fin md ((evX a false s).bind fun x s1 => match s1.deref x with
    | .lst l => .ok (.lst l.reverse) s1
    | .tup l => .ok (.tup l.reverse) s1
    | _ => .no)
  | .bad, _, _ => .no
  | .disp k bs es, md, s => fin md ((evSt es bs s).bind fun ts s1 => if ts.all Tr.pure && decide (ts.length ≤ sizeLine) then (match k with
      | 0 => .ok (.tup ts) s1
      | 1 => .ok (.lst ts) s1
      | _ => .ok (.ob s1.mem.length) ⟨s1.env, s1.mem ++ [.lst ts]⟩) else .no)
  | .callK f es ks, md, s => fin md ((evEs es s).bind fun ts s1 => (evEs ks s1).bind fun us s2 => if (ts ++ us).all Tr.pure then match cf f (ts ++ us) s2.mem with
      | some (t, m) => .ok t ⟨s2.env, m⟩
      | none => .no
    else .no)
  | .callP f es ks ps, md, s => fin md ((evEs es s).bind fun ts s1 => (evEs ks s1).bind fun us s2 => if (ts ++ us).all Tr.pure then match cf f (ts ++ pick ps us) s2.mem with
      | some (t, m) => .ok t ⟨s2.env, m⟩
      | none => .no
    else .no)
  | .call f es, md, s => fin md ((evEs es s).bind fun ts s1 => if ts.all Tr.pure then match cf f ts s1.mem with
      | some (t, m) => .ok t ⟨s1.env, m⟩
      | none => .no
    else .no)
  | .bi b es, md, s => fin md ((evEs es s).bind fun ts s1 => if (ts.map s1.deref).all Tr.pure then Rs.of (biT b (ts.map s1.deref)) s1 else .no)
  | .pop i, md, s => fin md (match s.env[i]? with
    | some (.own (.lst l)) => match l.getLast? with
      | some t => .ok t ⟨s.env.set i (.own (.lst l.dropLast)), s.mem⟩
      | none => .no
    | _ => .no)
  | .orV a b, md, s => if md then .no else ((evX a false s).bind fun x s1 => match truth (s1.deref x) with
    | some true => .ok x s1
    | some false => evX b false s1
    | none => .no)
  | .fld a f, md, s => fin md ((evX a false s).bind fun x s1 => match s1.deref x with
    | .ins _ ns l => Rs.of (getK f ns l) s1
    | .ob n => match s1.mem[n]? with
      | some (.ins _ ns l) => Rs.of (getK f ns l) s1
      | _ => .no
    | _ => .no)
  | .isC c a, md, s => fin md ((evX a false s).bind fun x s1 => Rs.of (isCT c (s1.deref x)) s1)
  | .make f es, md, s => fin md ((evEs es s).bind fun ts s1 => if ts.all Tr.pure then match cf f ts s1.mem with
      | some (t, m) => .ok t ⟨s1.env, m⟩
      | none => .no
    else .no)
  | .dsp es, md, s => fin md ((evEs es s).bind fun ts s1 => if ts.all Tr.pure then match dspT ts with
      | some (ks, vs) => if ks.Nodup ∧ ks.length ≤ 15 then .ok (.dk ks vs) s1 else .no
      | none => .no
    else .no)
  | .meth m a es, md, s => fin md ((evX a false s).bind fun x s1 => if recvOk m (s1.deref x) then (evEs es s1).bind fun ts s2 => if (s2.deref x).pure && (ts.map s2.deref).all Tr.pure then Rs.of (mtT m (s2.deref x) (ts.map s2.deref)) s2 else .no
    else .no)
  | .popAt i e, md, s => fin md (match s.env[i]? with
    | some (.own (.lst _)) => (evX e false s).bind fun t s1 => match s1.env[i]?, t with
      | some (.own (.lst l)), .int k => match ixN l.length k with
        | some j => if l.length ≤ sizeLine then Rs.of l[j]? ⟨s1.env.set i (.own (.lst (l.eraseIdx j))), s1.mem⟩ else .no
        | none => .no
      | _, _ => .no
    | _ => .no)
  | .comp k elt tg its cond own, md, s => fin md ((evEs its s).bind fun vs s1 => match (if (vs.map s1.deref).all Tr.pure then items k (vs.map s1.deref) else none) with
    | some xs => match compGo (compF tg (wipeE (s1.env.map Slot.lock) own) (fun s => if isNul cond then .ok (.bl true) s else evX cond true s) (fun s => evX elt false s)) xs s1.mem [] with
      | some (ys, m) => .ok (.lst ys) ⟨s1.env, m⟩
      | none => .no
    | none => .no)
def evEs : List Ex → Sta → Rs (List Tr)
  | [], s => .ok [] s
  | e :: es, s => (evX e false s).bind fun t s1 => (evEs es s1).bind fun ts s2 => .ok (t :: ts) s2
def evSt : List Ex → List Bool → Sta → Rs (List Tr)
  | [], _, s => .ok [] s
  | e :: es, bs, s => (evX e false s).bind fun t s1 => if bs.headD false then (match seqT (s1.deref t) with
      | some l => (evSt es bs.tail s1).bind fun ts s2 => .ok (l ++ ts) s2
      | none => .no)
    else (evSt es bs.tail s1).bind fun ts s2 => .ok (t :: ts) s2
end

/-! ### statements -/
inductive Fl where
  | next | brk | cont | ret (t : Tr)
/-- several names: 0 a value, 1 an own list, 2 an own dict, 3 an own dict with tuples for keys -/
def ownOb : Nat → Tr → Option Ob
  | 1, .lst l => some (.lst l)
  | 2, .dk [] [] => some (.dk [] [])
  | 3, .dk [] [] => some (.dt [] [])
  | _, _ => none
def manyGo : List (Nat × Nat) → List Tr → List Slot → Option (List Slot)
  | [], [], env => some env
  | (i, o) :: is, t :: ts, env => if i < env.length then (if o = 0 then manyGo is ts (env.set i (.val t)) else match ownOb o t with
      | some b => manyGo is ts (env.set i (.own b))
      | none => none)
    else none
  | _, _, _ => none
def isDisp : Ex → Bool
  | .lst _ => true
  | .bi .listOf _ => true
  | _ => false
def isDsp0 : Ex → Bool
  | .dsp [] => true
  | _ => false
/-- elements that become own lists are displays -/
def dispOk : List (Nat × Nat) → List Ex → Bool
  | [], [] => true
  | (_, o) :: is, e :: es => (o == 0 || (o == 1 && isDisp e) || ((o == 2 || o == 3) && isDsp0 e)) && dispOk is es
  | _, _ => false
def forGo (tg : Tg) (f : Sta → Rs Fl) : List Tr → Sta → Rs Fl
  | [], s => .ok .next s
  | x :: xs, s => match asg tg x s.env with
    | some env => match f ⟨env, s.mem⟩ with
      | .ok .next s1 => forGo tg f xs s1
      | .ok .cont s1 => forGo tg f xs s1
      | .ok .brk s1 => .ok .next s1
      | .ok (.ret t) s1 => .ok (.ret t) s1
      | .no => .no
    | none => .no
def whGo (c : Sta → Rs Tr) (f : Sta → Rs Fl) : Nat → Sta → Rs Fl
  | 0, _ => .no
  | n + 1, s => match c s with
    | .ok (.bl true) s1 => match f s1 with
      | .ok .next s2 => whGo c f n s2
      | .ok .cont s2 => whGo c f n s2
      | .ok .brk s2 => .ok .next s2
      | .ok (.ret t) s2 => .ok (.ret t) s2
      | .no => .no
    | .ok (.bl false) s1 => .ok .next s1
    | _ => .no
variable (wf : Nat)
mutual
def exS : Sm → Sta → Rs Fl
  | .set i e, s => (evX gc cf e false s).bind fun t s1 => if t.pure && decide (i < s1.env.length) then .ok .next ⟨s1.env.set i (.val t), s1.mem⟩ else .no
  | .own i es, s => (evEs gc cf es s).bind fun ts s1 => if ts.all Tr.pure && decide (ts.length ≤ sizeLine) && decide (i < s1.env.length) then .ok .next ⟨s1.env.set i (.own (.lst ts)), s1.mem⟩ else .no
  | .ownOf i e, s => (evX gc cf e false s).bind fun t s1 => match seqT (s1.deref t) with
    | some l => if i < s1.env.length then .ok .next ⟨s1.env.set i (.own (.lst l)), s1.mem⟩ else .no
    | none => .no
  | .ownE i e, s => (evX gc cf e false s).bind fun t s1 => match t with
    | .lst l => if i < s1.env.length then .ok .next ⟨s1.env.set i (.own (.lst l)), s1.mem⟩ else .no
    | _ => .no
  | .ownD i t, s => if i < s.env.length then .ok .next ⟨s.env.set i (.own (if t then .dt [] [] else .dk [] [])), s.mem⟩ else .no
  | .dput i k v, s => (evX gc cf v false s).bind fun t s1 => match s1.env[i]? with
    | some (.own _) => (evX gc cf k false s1).bind fun y s2 => match s2.env[i]? with
      | some (.own (.dk ks vs)) => match keyT y with
        | some k => if t.pure && decide (ks.length < sizeLine) then .ok .next ⟨s2.env.set i (.own (.dk (putV ks vs k t).1 (putV ks vs k t).2)), s2.mem⟩ else .no
        | none => .no
      | some (.own (.dt ks vs)) => match y with
        | .tup l => match keysT l with
          | some k => if t.pure && decide (ks.length < sizeLine) then .ok .next ⟨s2.env.set i (.own (.dt (putV ks vs k t).1 (putV ks vs k t).2)), s2.mem⟩ else .no
          | none => .no
        | _ => .no
      | _ => .no
    | _ => .no
  | .fset o f e, s => (evX gc cf e false s).bind fun t s1 => (evX gc cf o false s1).bind fun x s2 => match x with
    | .ob n => match s2.mem[n]? with
      | some (.ins c ns l) => if t.pure && decide (ns.length < 1000) then .ok .next ⟨s2.env, s2.mem.set n (.ins c (setF ns l f t).1 (setF ns l f t).2)⟩ else .no
      | _ => .no
    | _ => .no
  | .setAt i k v, s => (evX gc cf v false s).bind fun t s1 => match s1.env[i]? with
    | some (.own _) => (evX gc cf k false s1).bind fun y s2 => match s2.env[i]?, y with
      | some (.own (.lst l)), .int z => match ixN l.length z with
        | some j => if t.pure then .ok .next ⟨s2.env.set i (.own (.lst (l.set j t))), s2.mem⟩ else .no
        | none => .no
      | _, _ => .no
    | _ => .no
  | .many is es, s => (evEs gc cf es s).bind fun ts s1 => if ts.all Tr.pure then match manyGo is ts s1.env with
      | some env => .ok .next ⟨env, s1.mem⟩
      | none => .no
    else .no
  | .tgt tg e, s => (evX gc cf e false s).bind fun t s1 => match asg tg t s1.env with
    | some env => .ok .next ⟨env, s1.mem⟩
    | none => .no
  | .aug i o e, s => match s.env[i]? with
    | some (.val (.int x)) => (evX gc cf e false s).bind fun y s1 => match o, y with
      | .add, .int y => .ok .next ⟨s1.env.set i (.val (.int (x + y))), s1.mem⟩
      | .sub, .int y => .ok .next ⟨s1.env.set i (.val (.int (x - y))), s1.mem⟩
      | _, _ => .no
    | _ => .no
  | .put o k v, s => (evX gc cf v false s).bind fun t s1 => (evX gc cf o false s1).bind fun x s2 => (evX gc cf k false s2).bind fun y s3 => match x, y with
    | .ob n, .int i => match s3.mem[n]? with
      | some (.lst l) => match ixN l.length i with
        | some j => if t.pure then .ok .next ⟨s3.env, s3.mem.set n (.lst (l.set j t))⟩ else .no
        | none => .no
      | _ => .no
    | _, _ => .no
  | .app i e, s => match s.env[i]? with
    | some (.own (.lst _)) => (evX gc cf e false s).bind fun t s1 => match s1.env[i]? with
      | some (.own (.lst l)) => if t.pure && decide (l.length < sizeLine) then .ok .next ⟨s1.env.set i (.own (.lst (l ++ [t]))), s1.mem⟩ else .no
      | _ => .no
    | _ => .no
  | .ext i e, s => match s.env[i]? with
    | some (.own (.lst _)) => (evX gc cf e false s).bind fun t s1 => match s1.env[i]?, t with
      | some (.own (.lst l)), .lst m => if l.length + m.length ≤ sizeLine then .ok .next ⟨s1.env.set i (.own (.lst (l ++ m))), s1.mem⟩ else .no
      | some (.own (.lst l)), .tup m => if l.length + m.length ≤ sizeLine then .ok .next ⟨s1.env.set i (.own (.lst (l ++ m))), s1.mem⟩ else .no
      | _, _ => .no
    | _ => .no
  | .ex e, s => (evX gc cf e false s).bind fun _ s1 => .ok .next s1
  | .ret e, s => (evX gc cf e false s).bind fun t s1 => if t.pure then .ok (.ret t) s1 else .no
  | .retN, s => .ok (.ret .non) s
  | .ite c a b, s => (evX gc cf c true s).bind fun x s1 => match x with
    | .bl true => exSs a s1
    | .bl false => exSs b s1
    | _ => .no
  | .forr k tg its b, s => (evEs gc cf its s).bind fun vs s1 => if vs.all Tr.pure then match items k vs with
      | some xs => forGo tg (exSs b) xs s1
      | none => .no
    else .no
  | .whl c b, s => whGo (evX gc cf c true) (exSs b) wf s
  | .brk, s => .ok .brk s
  | .cont, s => .ok .cont s
  | .pass, s => .ok .next s
  | .bad, _ => .no
def exSs : List Sm → Sta → Rs Fl
  | [], s => .ok .next s
  | x :: xs, s => (exS x s).bind fun f s1 => match f with
    | .next => exSs xs s1
    | .brk => .ok .brk s1
    | .cont => .ok .cont s1
    | .ret t => .ok (.ret t) s1
end
end
/-- a def: parameters, names, body; the __init__ of a class, by the class's name -/
structure Fn where
  par : Nat
  loc : Nat
  body : List Sm
  cls : Option Str := none
def done : Rs Fl → Option (Tr × List Ob)
  | .ok .next s => some (.non, s.mem)
  | .ok (.ret t) s => some (t, s.mem)
  | _ => none
def doneC (n : Nat) : Rs Fl → Option (Tr × List Ob)
  | .ok .next s => match s.mem[n]? with
    | some (.ins c ns l) => some (.ins c ns l, s.mem.set n .gone)
    | _ => none
  | _ => none
def callF (gc : Nat → Option Tr) (wf : Nat) (fs : Nat → Option Fn) : Nat → CF
  | 0 => fun _ _ _ => none
  | d + 1 => fun f ts m => match fs f with
    | some fn => match fn.cls with
      | none => if ts.length = fn.par then done (exSs gc (callF gc wf fs d) wf fn.body ⟨ts.map Slot.val ++ List.replicate (fn.loc - ts.length) Slot.none, m⟩) else none
      | some c => match d with
        | 0 => none
        | e + 1 => if ts.length + 1 = fn.par then doneC m.length (exSs gc (callF gc wf fs e) wf fn.body ⟨(Tr.ob m.length :: ts).map Slot.val ++ List.replicate (fn.loc - (ts.length + 1)) Slot.none, m ++ [.ins c [] []]⟩) else none
    | none => none
end Ev
/-! The relation between the evaluator's states and the abstract heap. -/
namespace Ev
open PySem PySem.Spec L2

/-- what stands all the time: the program, the world, the written part, the names, our classes -/
structure Mx where
  P : Program
  w : World
  K : PySem.W.Frag
  mg : Str → Option Value
  cl : List Str
instance : Coe Mx PySem.W.Frag := ⟨Mx.K⟩
/-- the dict at a whose keys are tuples of ints and texts, each at its address -/
def dtO (P : Program) (w : World) (a : Addr) (kvs : List (List Key × Addr × V)) : HO := .ext fun h => kvs.length ≤ sizeLine ∧ (a == sysModules) = false ∧ ∃ xs : List (List Key × Addr × Value),
  Paired (fun (p : List Key × Addr × V) (q : List Key × Addr × Value) => p.1 = q.1 ∧ p.2.1 = q.2.1 ∧ RelV p.2.2 q.2.2) kvs xs ∧
  ∃ o es ep, h.get? a = some o ∧ o.ExactDict ∧ o.data = .dict es ep ∧ es.toList = xs.map (entryOfKey (tupleKind (mixKind P w))) ∧ (xs.map (·.1)).Nodup

def FLe (F F' : Hp) : Prop := ∀ a o, F a = some o → F' a = some o
theorem FLe.refl (F : Hp) : FLe F F := fun _ _ h => h
theorem FLe.trans {F F1 F2 : Hp} (a : FLe F F1) (b : FLe F1 F2) : FLe F F2 := fun c o h => b c o (a c o h)
theorem FLe.tup {K : PySem.W.Frag} {F F' : Hp} {a : Addr} {xs : List V} (h : FLe F F') (q : SqT K F a xs) : SqT K F' a xs := by
  rcases q with (q | ⟨o, q⟩) | q
  · exact .inl (.inl (h _ _ q))
  · exact .inl (.inr ⟨o, h _ _ q⟩)
  · exact .inr q
theorem FLe.lst {K : PySem.W.Frag} {F F' : Hp} {a : Addr} {xs : List V} (h : FLe F F') (q : SqL K F a xs) : SqL K F' a xs := by
  rcases q with (q | ⟨o, q⟩) | q
  · exact .inl (.inl (h _ _ q))
  · exact .inl (.inr ⟨o, h _ _ q⟩)
  · exact .inr q
theorem FLe.new {F H : Hp} {p : Addr} {o : HO} (h : FLe F H) (n : H p = none) : FLe F (upd H p o) := fun a u e => by
  rw [upd_ne (ne_of_none (h a u e) n)]
  exact h a u e
theorem FLe.upd1 {F : Hp} {p : Addr} {o : HO} (n : F p = none) : FLe F (upd F p o) := fun a u e => by
  rw [upd_ne (ne_of_none e n)]
  exact e
theorem FLe.both {F H : Hp} {p : Addr} {o : HO} (h : FLe F H) : FLe (upd F p o) (upd H p o) := fun a u e => by
  by_cases z : a = p
  · subst z
    rw [upd_same] at e ⊢
    exact e
  · rw [upd_ne z] at e ⊢
    exact h a u e
theorem FLe.none {F H : Hp} {p : Addr} (h : FLe F H) (n : H p = none) : F p = none := by
  cases e : F p with
  | none => rfl
  | some o => rw [h p o e] at n; cases n

mutual
inductive Rp (K : Mx) (F : Hp) (θ : List Addr) : Tr → V → Prop
  | non : Rp K F θ .non .non
  | bl (b : Bool) : Rp K F θ (.bl b) (.bl b)
  | int (i : Int) : Rp K F θ (.int i) (.int i)
  | str (x : Str) : Rp K F θ (.str x) (.str x)
  | tup {a : Addr} {xs : List V} {l : List Tr} : SqT K F a xs → Rps K F θ l xs → Rp K F θ (.tup l) (.ref a)
  | lst {a : Addr} {xs : List V} {l : List Tr} : F a = some (.lst xs) → Rps K F θ l xs → Rp K F θ (.lst l) (.ref a)
  | flst {a : Addr} {xs : List V} {l : List Tr} : SqL K F a xs → Rps K F θ l xs → Rp K F θ (.flst l) (.ref a)
  | dk {a : Addr} {kvs : List (Key × V)} {ks : List Key} {l : List Tr} : F a = some (.dK kvs) → kvs.map (·.1) = ks → Rps K F θ l (kvs.map (·.2)) → Rp K F θ (.dk ks l) (.ref a)
  | dt {a : Addr} {kvs : List (List Key × Addr × V)} {ks : List (List Key)} {l : List Tr} : F a = some (dtO K.P K.w a kvs) → kvs.map (·.1) = ks → Rps K F θ l (kvs.map (·.2.2)) → (∀ p ∈ kvs, SqT K F p.2.1 (p.1.map kV)) → Rp K F θ (.dt ks l) (.ref a)
  | ins {a C dx : Addr} {fs : List (Str × V)} {c : Str} {ns : List Str} {l : List Tr} : F a = some (.ins C dx fs) → c ∈ K.cl → K.mg c = some (.ref C) → fs.map (·.1) = ns → Rps K F θ l (fs.map (·.2)) → Rp K F θ (.ins c ns l) (.ref a)
  | ob {a : Addr} {n : Nat} : θ[n]? = some a → Rp K F θ (.ob n) (.ref a)
inductive Rps (K : Mx) (F : Hp) (θ : List Addr) : List Tr → List V → Prop
  | nil : Rps K F θ [] []
  | cons {t : Tr} {l : List Tr} {v : V} {vs : List V} : Rp K F θ t v → Rps K F θ l vs → Rps K F θ (t :: l) (v :: vs)
end
variable {K : Mx} {F F' : Hp} {θ θ' : List Addr}
theorem pre_get {α : Type} {l l' : List α} (h : l <+: l') {n : Nat} {a : α} (e : l[n]? = some a) : l'[n]? = some a := by
  obtain ⟨r, rfl⟩ := h
  have hn : n < l.length := (List.getElem?_eq_some_iff.mp e).1
  rw [List.getElem?_append_left hn]
  exact e
mutual
theorem Rp.mono (hF : FLe F F') (hθ : θ <+: θ') : ∀ {t : Tr} {v : V}, Rp K F θ t v → Rp K F' θ' t v
  | _, _, .non => .non
  | _, _, .bl b => .bl b
  | _, _, .int i => .int i
  | _, _, .str x => .str x
  | _, _, .tup h r => .tup (hF.tup h) (Rps.mono hF hθ r)
  | _, _, .lst h r => .lst (hF _ _ h) (Rps.mono hF hθ r)
  | _, _, .flst h r => .flst (hF.lst h) (Rps.mono hF hθ r)
  | _, _, .dk h e r => .dk (hF _ _ h) e (Rps.mono hF hθ r)
  | _, _, .dt h e r k => .dt (hF _ _ h) e (Rps.mono hF hθ r) fun p hp => hF.tup (k p hp)
  | _, _, .ins h i g e r => .ins (hF _ _ h) i g e (Rps.mono hF hθ r)
  | _, _, .ob h => .ob (pre_get hθ h)
theorem Rps.mono (hF : FLe F F') (hθ : θ <+: θ') : ∀ {l : List Tr} {vs : List V}, Rps K F θ l vs → Rps K F' θ' l vs
  | _, _, .nil => .nil
  | _, _, .cons r s => .cons (Rp.mono hF hθ r) (Rps.mono hF hθ s)
end
theorem Rp.pure {t : Tr} {v : V} (r : Rp K F θ t v) : t.pure = true := by cases r <;> rfl
theorem Rps.length : ∀ {l : List Tr} {vs : List V}, Rps K F θ l vs → vs.length = l.length
  | _, _, .nil => rfl
  | _, _, .cons _ s => by rw [List.length_cons, List.length_cons, s.length]
theorem Rps.get : ∀ {l : List Tr} {vs : List V} {i : Nat} {t : Tr}, Rps K F θ l vs → l[i]? = some t → ∃ v, vs[i]? = some v ∧ Rp K F θ t v
  | _, _, _, _, .nil, e => by simp at e
  | _, _, 0, _, .cons r _, e => by simp at e; subst e; exact ⟨_, rfl, r⟩
  | _, _, i + 1, t, .cons _ s, e => by
    obtain ⟨v, h1, h2⟩ := Rps.get (i := i) (t := t) s (by simpa using e)
    exact ⟨v, by simpa using h1, h2⟩
theorem Rps.get' : ∀ {l : List Tr} {vs : List V} {i : Nat} {v : V}, Rps K F θ l vs → vs[i]? = some v → ∃ t, l[i]? = some t ∧ Rp K F θ t v
  | _, _, _, _, .nil, e => by simp at e
  | _, _, 0, _, .cons r _, e => by simp at e; subst e; exact ⟨_, rfl, r⟩
  | _, _, i + 1, t, .cons _ s, e => by
    obtain ⟨v, h1, h2⟩ := Rps.get' (i := i) (v := t) s (by simpa using e)
    exact ⟨v, by simpa using h1, h2⟩
theorem Rps.append : ∀ {l m : List Tr} {xs ys : List V}, Rps K F θ l xs → Rps K F θ m ys → Rps K F θ (l ++ m) (xs ++ ys)
  | _, _, _, _, .nil, s => s
  | _, _, _, _, .cons r t, s => .cons r (Rps.append t s)
theorem Rps.drop : ∀ {l : List Tr} {xs : List V} (n : Nat), Rps K F θ l xs → Rps K F θ (l.drop n) (xs.drop n)
  | _, _, 0, r => r
  | _, _, _ + 1, .nil => .nil
  | _, _, n + 1, .cons _ t => Rps.drop n t
theorem Rps.take : ∀ {l : List Tr} {xs : List V} (n : Nat), Rps K F θ l xs → Rps K F θ (l.take n) (xs.take n)
  | _, _, 0, _ => .nil
  | _, _, _ + 1, .nil => .nil
  | _, _, n + 1, .cons r t => .cons r (Rps.take n t)
theorem Rps.set {t : Tr} {v : V} (r : Rp K F θ t v) : ∀ {l : List Tr} {xs : List V} (i : Nat), Rps K F θ l xs → Rps K F θ (l.set i t) (xs.set i v)
  | _, _, _, .nil => .nil
  | _, _, 0, .cons _ s => .cons r s
  | _, _, i + 1, .cons q s => .cons q (Rps.set r i s)
theorem Rps.reverse : ∀ {l : List Tr} {xs : List V}, Rps K F θ l xs → Rps K F θ l.reverse xs.reverse
  | _, _, .nil => .nil
  | _, _, .cons r s => by
    rw [List.reverse_cons, List.reverse_cons]
    exact Rps.append (Rps.reverse s) (.cons r .nil)
theorem Rps.rep {l : List Tr} {xs : List V} (r : Rps K F θ l xs) : ∀ k : Nat, Rps K F θ (List.replicate k l).flatten (List.replicate k xs).flatten
  | 0 => .nil
  | k + 1 => by
    rw [List.replicate_succ, List.replicate_succ, List.flatten_cons, List.flatten_cons]
    exact Rps.append r (Rps.rep r k)
theorem Rps.dropLast {l : List Tr} {xs : List V} (r : Rps K F θ l xs) : Rps K F θ l.dropLast xs.dropLast := by
  rw [List.dropLast_eq_take, List.dropLast_eq_take, r.length]
  exact r.take _

theorem Rps.eraseIdx : ∀ {l : List Tr} {xs : List V} (n : Nat), Rps K F θ l xs → Rps K F θ (l.eraseIdx n) (xs.eraseIdx n)
  | _, _, _, .nil => .nil
  | _, _, 0, .cons _ t => t
  | _, _, n + 1, .cons r t => .cons r (Rps.eraseIdx n t)
/-- an object in memory -/
def RpB (K : Mx) (F : Hp) (θ : List Addr) (a : Addr) : Ob → HO → Prop
  | .lst l, o => ∃ xs, o = .lst xs ∧ Rps K F θ l xs
  | .dk ks vs, o => ∃ kvs : List (Key × V), o = .dK kvs ∧ kvs.map (·.1) = ks ∧ Rps K F θ vs (kvs.map (·.2))
  | .dt ks vs, o => ∃ kvs : List (List Key × Addr × V), o = dtO K.P K.w a kvs ∧ kvs.map (·.1) = ks ∧ Rps K F θ vs (kvs.map (·.2.2)) ∧ ∀ p ∈ kvs, SqT K F p.2.1 (p.1.map kV)
  | .ins c ns l, o => ∃ C dx fs, o = .ins C dx fs ∧ c ∈ K.cl ∧ K.mg c = some (.ref C) ∧ fs.map (·.1) = ns ∧ Rps K F θ l (fs.map (·.2))
  | .gone, _ => False
theorem RpB.mono (hF : FLe F F') (hθ : θ <+: θ') {a : Addr} {b : Ob} {o : HO} (r : RpB K F θ a b o) : RpB K F' θ' a b o := by
  cases b with
  | lst l => obtain ⟨xs, e, q⟩ := r; exact ⟨xs, e, q.mono hF hθ⟩
  | dk ks vs => obtain ⟨xs, e, e2, q⟩ := r; exact ⟨xs, e, e2, q.mono hF hθ⟩
  | dt ks vs => obtain ⟨xs, e, e2, q, k⟩ := r; exact ⟨xs, e, e2, q.mono hF hθ, fun p hp => hF.tup (k p hp)⟩
  | ins c ns l => obtain ⟨C, dx, fs, e, i, g, e2, q⟩ := r; exact ⟨C, dx, fs, e, i, g, e2, q.mono hF hθ⟩
  | gone => exact r
/-- it stays -/
theorem RpB.rp {a : Addr} {b : Ob} {o : HO} (r : RpB K F θ a b o) (h : F a = some o) : Rp K F θ b.tr (.ref a) := by
  cases b with
  | lst l => obtain ⟨xs, rfl, q⟩ := r; exact .lst h q
  | dk ks vs => obtain ⟨xs, rfl, e2, q⟩ := r; exact .dk h e2 q
  | dt ks vs => obtain ⟨xs, rfl, e2, q, k⟩ := r; exact .dt h e2 q k
  | ins c ns l => obtain ⟨C, dx, fs, rfl, i, g, e2, q⟩ := r; exact .ins h i g e2 q
  | gone => exact r.elim
theorem RpB.new {a : Addr} {b : Ob} {o : HO} (r : RpB K F θ a b o) {p : Addr} {u : HO} (n : F p = none) : RpB K (upd F p u) θ a b o := r.mono (FLe.upd1 n) (List.prefix_refl _)
/-- a slot -/
def RpS (K : Mx) (F G : Hp) (θ : List Addr) (H : Hp) : Slot → Option (Option V) → Prop
  | .none, _ => True
  | .val t, v => ∃ x, v = some (some x) ∧ Rp K F θ t x
  | .own b, v => ∃ a o, v = some (some (.ref a)) ∧ H a = some o ∧ F a = none ∧ G a = none ∧ a ∉ θ ∧ RpB K F θ a b o
def RpO (K : Mx) (F : Hp) (θ : List Addr) (a : Addr) (b : Ob) (h : Option HO) : Prop := ∃ o, h = some o ∧ RpB K F θ a b o
/-- what is shared: F the things that stay, G the things that others hold, θ the shared objects -/
structure RelM (K : Mx) (F G : Hp) (θ : List Addr) (m : List Ob) (H : Hp) : Prop where
  fle : FLe F H
  gle : FLe G H
  fg : ∀ a o, G a = some o → F a = none
  len : m.length = θ.length
  nd : θ.Nodup
  gt : ∀ a o, G a = some o → a ∉ θ
  al : ∀ a ∈ θ, ∃ o, H a = some o
  ob : ∀ (n : Nat) o, m[n]? = some o → o ≠ .gone → ∃ a, θ[n]? = some a ∧ F a = none ∧ G a = none ∧ RpO K F θ a o (H a)
structure Rel (K : Mx) (F G : Hp) (θ : List Addr) (s : Sta) (σ : St) (H : Hp) : Prop where
  m : RelM K F G θ s.mem H
  len : s.env.length = σ.length
  slot : ∀ (i : Nat) x, s.env[i]? = some x → RpS K F G θ H x σ[i]?
  dis : ∀ (i j : Nat) l l' a, s.env[i]? = some (.own l) → s.env[j]? = some (.own l') → σ[i]? = some (some (.ref a)) → σ[j]? = some (some (.ref a)) → i = j
/-- an operand -/
def RpV (K : Mx) (F : Hp) (θ : List Addr) (σ : St) : Tr → V → Prop
  | .bor i, v => σ[i]? = some (some v)
  | t, v => Rp K F θ t v
theorem RpV.mono {σ : St} {t : Tr} {v : V} (hF : FLe F F') (hθ : θ <+: θ') (r : RpV K F θ σ t v) : RpV K F' θ' σ t v := by
  cases t <;> first | exact Rp.mono hF hθ r | exact r
theorem RpV.of {σ : St} {t : Tr} {v : V} (r : Rp K F θ t v) : RpV K F θ σ t v := by cases r <;> (first | exact .non | exact .bl _ | exact .int _ | exact .str _ | exact .tup ‹_› ‹_› | exact .lst ‹_› ‹_› | exact .flst ‹_› ‹_› | exact .dk ‹_› ‹_› ‹_› | exact .dt ‹_› ‹_› ‹_› ‹_› | exact .ins ‹_› ‹_› ‹_› ‹_› ‹_› | exact .ob ‹_›)
theorem RpV.rp {σ : St} {t : Tr} {v : V} (r : RpV K F θ σ t v) (p : t.pure = true) : Rp K F θ t v := by
  cases t <;> first | exact r | exact nomatch p
/-- an operand, read at the heap H -/
def RpH (K : Mx) (F : Hp) (θ : List Addr) (H : Hp) : Tr → V → Prop
  | .lst l, v => ∃ a xs, v = .ref a ∧ H a = some (.lst xs) ∧ Rps K F θ l xs
  | .dk ks l, v => ∃ a kvs, v = .ref a ∧ H a = some (.dK kvs) ∧ kvs.map (·.1) = ks ∧ Rps K F θ l (kvs.map (·.2))
  | .dt ks l, v => ∃ a kvs, v = .ref a ∧ H a = some (dtO K.P K.w a kvs) ∧ kvs.map (·.1) = ks ∧ Rps K F θ l (kvs.map (·.2.2)) ∧ ∀ p ∈ kvs, SqT K F p.2.1 (p.1.map kV)
  | .ins c ns l, v => ∃ a C dx fs, v = .ref a ∧ H a = some (.ins C dx fs) ∧ c ∈ K.cl ∧ K.mg c = some (.ref C) ∧ fs.map (·.1) = ns ∧ Rps K F θ l (fs.map (·.2))
  | .bor _, _ => False
  | t, v => Rp K F θ t v
variable {G H : Hp} {s : Sta} {σ : St}
theorem RpH.of {t : Tr} {v : V} (h : FLe F H) (r : Rp K F θ t v) : RpH K F θ H t v := by
  cases r with
  | lst e q => exact ⟨_, _, rfl, h _ _ e, q⟩
  | dk e e2 q => exact ⟨_, _, rfl, h _ _ e, e2, q⟩
  | dt e e2 q k => exact ⟨_, _, rfl, h _ _ e, e2, q, k⟩
  | ins e i g e2 q => exact ⟨_, _, _, _, rfl, h _ _ e, i, g, e2, q⟩
  | non => exact .non
  | bl b => exact .bl b
  | int i => exact .int i
  | str x => exact .str x
  | tup e q => exact .tup e q
  | flst e q => exact .flst e q
  | ob e => exact .ob e
theorem RpB.rpH {a : Addr} {b : Ob} {o : HO} (r : RpB K F θ a b o) (h : H a = some o) : RpH K F θ H b.tr (.ref a) := by
  cases b with
  | lst l => obtain ⟨xs, rfl, q⟩ := r; exact ⟨_, _, rfl, h, q⟩
  | dk ks vs => obtain ⟨xs, rfl, e2, q⟩ := r; exact ⟨_, _, rfl, h, e2, q⟩
  | dt ks vs => obtain ⟨xs, rfl, e2, q, k⟩ := r; exact ⟨_, _, rfl, h, e2, q, k⟩
  | ins c ns l => obtain ⟨C, dx, fs, rfl, i, g, e2, q⟩ := r; exact ⟨_, _, _, _, rfl, h, i, g, e2, q⟩
  | gone => exact r.elim
/-- reading an operand: nothing is known of a borrowed thing whose slot is gone -/
theorem deref_none {i : Nat} (e : s.env[i]? = none) : s.deref (.bor i) = .bor i := by simp only [Sta.deref, e]
theorem deref_slot {i : Nat} {x : Slot} (e : s.env[i]? = some x) : s.deref (.bor i) = (match x with
    | .own o => o.tr
    | .val t => t
    | _ => .bor i) := by simp only [Sta.deref, e]; cases x <;> rfl
theorem Rel.deref (R : Rel K F G θ s σ H) {t : Tr} {v : V} (r : RpV K F θ σ t v) : (∃ i, s.deref t = .bor i) ∨ RpH K F θ H (s.deref t) v := by
  cases t with
  | bor i =>
    have r' : σ[i]? = some (some v) := r
    cases e : s.env[i]? with
    | none => exact .inl ⟨i, deref_none e⟩
    | some x =>
      have q := R.slot i x e
      rw [deref_slot e]
      cases x with
      | none => exact .inl ⟨i, rfl⟩
      | val t =>
        obtain ⟨y, e1, q⟩ := q
        rw [r'] at e1
        cases e1
        exact .inr (RpH.of R.m.fle q)
      | own l =>
        obtain ⟨a, xs, e1, h, _, _, _, q⟩ := q
        rw [r'] at e1
        cases e1
        exact .inr (q.rpH h)
  | _ => exact .inr (RpH.of R.m.fle r)

/-! ### the state behind something new -/
/-- a new thing that stays -/
theorem RelM.newF {m : List Ob} {p : Addr} {o : HO} (R : RelM K F G θ m H) (n : H p = none) : RelM K (upd F p o) G θ m (upd H p o) := by
  have fp : F p = none := R.fle.none n
  have gp : G p = none := R.gle.none n
  refine ⟨R.fle.both, R.gle.new n, fun a u e => ?_, R.len, R.nd, R.gt, fun a ha => ?_, fun k u e hu => ?_⟩
  · rw [upd_ne (ne_of_none e gp)]
    exact R.fg a u e
  · obtain ⟨o, ho⟩ := R.al a ha
    exact ⟨o, by rw [upd_ne (ne_of_none ho n)]; exact ho⟩
  · obtain ⟨a, h1, h2, h3, h4⟩ := R.ob k u e hu
    have ne : a ≠ p := by
      rintro rfl
      obtain ⟨xs, q, _⟩ := h4
      rw [n] at q
      cases q
    refine ⟨a, h1, by rw [upd_ne ne]; exact h2, h3, ?_⟩
    rw [upd_ne ne]
    obtain ⟨xs, q, r⟩ := h4
    exact ⟨xs, q, r.mono (FLe.upd1 fp) (List.prefix_refl _)⟩
theorem RpS.newF {p : Addr} {o : HO} {x : Slot} {v : Option (Option V)} (fp : F p = none) (n : H p = none) (r : RpS K F G θ H x v) : RpS K (upd F p o) G θ (upd H p o) x v := by
  cases x with
  | none => exact r
  | val t => obtain ⟨y, e, q⟩ := r; exact ⟨y, e, q.mono (FLe.upd1 fp) (List.prefix_refl _)⟩
  | own l =>
    obtain ⟨a, xs, e, h, f, g, t, q⟩ := r
    have ne : a ≠ p := ne_of_none h n
    exact ⟨a, xs, e, by rw [upd_ne ne]; exact h, by rw [upd_ne ne]; exact f, g, t, q.mono (FLe.upd1 fp) (List.prefix_refl _)⟩
theorem Rel.newF {p : Addr} {o : HO} (R : Rel K F G θ s σ H) (n : H p = none) : Rel K (upd F p o) G θ s σ (upd H p o) :=
  ⟨R.m.newF n, R.len, fun i x e => (R.slot i x e).newF (R.m.fle.none n) n, R.dis⟩
/-- a new object of nobody's -/
theorem Rel.junk {p : Addr} {o : HO} (R : Rel K F G θ s σ H) (n : H p = none) : Rel K F G θ s σ (upd H p o) := by
  refine ⟨⟨R.m.fle.new n, R.m.gle.new n, R.m.fg, R.m.len, R.m.nd, R.m.gt, fun a ha => ?_, fun k u e hu => ?_⟩, R.len, fun i x e => ?_, R.dis⟩
  · obtain ⟨o, ho⟩ := R.m.al a ha
    exact ⟨o, by rw [upd_ne (ne_of_none ho n)]; exact ho⟩
  · obtain ⟨a, h1, h2, h3, h4⟩ := R.m.ob k u e hu
    refine ⟨a, h1, h2, h3, ?_⟩
    obtain ⟨xs, q, r⟩ := h4
    exact ⟨xs, by rw [upd_ne (ne_of_none q n)]; exact q, r⟩
  · have r := R.slot i x e
    cases x with
    | none => exact r
    | val t => exact r
    | own l => obtain ⟨a, xs, e, h, f⟩ := r; exact ⟨a, xs, e, by rw [upd_ne (ne_of_none h n)]; exact h, f⟩
theorem RelM.noTh {m : List Ob} {p : Addr} (R : RelM K F G θ m H) (n : H p = none) : p ∉ θ := fun hm => by
  obtain ⟨o, ho⟩ := R.al p hm
  rw [n] at ho
  cases ho
end Ev
/-! Dicts: both kinds, read and written; the least item of a tuple. -/
namespace Ev
open PySem PySem.Spec L2
open PyProof.Rows hiding St

def valT (kvs : List (List Key × Addr × V)) (k : List Key) : Option V := (kvs.find? fun x => decide (x.1 = k)).map (·.2.2)
def putD (kvs : List (List Key × Addr × V)) (k : List Key) (b : Addr) (v : V) : List (List Key × Addr × V) :=
  if (kvs.any fun x => decide (x.1 = k)) = true then kvs.map (fun x => if x.1 = k then (x.1, x.2.1, v) else x) else kvs ++ [(k, b, v)]
abbrev KD : List (List Key × Addr × V) → List (List Key × Addr × Value) → Prop := Paired (fun (p : List Key × Addr × V) (q : List Key × Addr × Value) => p.1 = q.1 ∧ p.2.1 = q.2.1 ∧ RelV p.2.2 q.2.2)
theorem KD.val {kvs : List (List Key × Addr × V)} {xs : List (List Key × Addr × Value)} (r : KD kvs xs) (k : List Key) : RelO (valT kvs k) ((atKey xs k).map (·.2)) := by
  induction r with
  | nil => exact True.intro
  | @cons p q ps qs h t ih =>
    obtain ⟨h1, _, h2⟩ := h
    by_cases e : p.1 = k
    · have e' : q.1 = k := h1.symm.trans e
      have b : atKey (q :: qs) k = some q.2 := by simp [atKey, List.find?_cons, e']
      have c : valT (p :: ps) k = some p.2.2 := by simp [valT, List.find?_cons, e]
      rw [c, b]; exact h2
    · have e' : ¬ q.1 = k := fun z => e (h1.trans z)
      have b : atKey (q :: qs) k = atKey qs k := by simp [atKey, List.find?_cons, e']
      have c : valT (p :: ps) k = valT ps k := by simp [valT, List.find?_cons, e]
      rw [c, b]; exact ih
theorem valT_any (k : List Key) : ∀ kvs : List (List Key × Addr × V), (kvs.any fun x => decide (x.1 = k)) = (valT kvs k).isSome
  | [] => rfl
  | p :: r => by
    rw [List.any_cons]
    by_cases e : p.1 = k
    · simp [valT, List.find?_cons, e]
    · have c : valT (p :: r) k = valT r k := by simp [valT, List.find?_cons, e]
      rw [c, decide_eq_false e, Bool.false_or]; exact valT_any k r
theorem KD.repl {kvs : List (List Key × Addr × V)} {xs : List (List Key × Addr × Value)} (r : KD kvs xs) (k : List Key) {y : V} {u : Value} (ry : RelV y u) :
    KD (kvs.map fun x => if x.1 = k then (x.1, x.2.1, y) else x) (xs.map (putAt k u)) := by
  induction r with
  | nil => exact .nil
  | @cons p q ps qs h t ih =>
    rw [List.map_cons, List.map_cons]
    refine .cons ?_ ih
    obtain ⟨h1, h2, h3⟩ := h
    unfold putAt
    by_cases e : p.1 = k
    · rw [if_pos e, if_pos (h1.symm.trans e)]; exact ⟨h1, h2, ry⟩
    · rw [if_neg e, if_neg (fun z => e (h1.trans z))]; exact ⟨h1, h2, h3⟩
theorem KD.put {kvs : List (List Key × Addr × V)} {xs : List (List Key × Addr × Value)} (r : KD kvs xs) (k : List Key) {b : Addr} {y : V} {u : Value} (ry : RelV y u) : KD (putD kvs k b y) (storedH xs k b u) := by
  have e : (kvs.any fun x => decide (x.1 = k)) = (atKey xs k).isSome := by
    rw [valT_any, (r.val k).isSome_eq, Option.isSome_map]
  unfold putD storedH
  rw [e]
  by_cases q : (atKey xs k).isSome = true
  · rw [if_pos q, if_pos q]; exact r.repl k ry
  · rw [if_neg q, if_neg q]; exact Paired.snoc r ⟨rfl, rfl, ry⟩
theorem length_putD (kvs : List (List Key × Addr × V)) (k : List Key) (b : Addr) (v : V) : (putD kvs k b v).length ≤ kvs.length + 1 := by
  unfold putD
  split
  · rw [List.length_map]; omega
  · rw [List.length_append, List.length_cons, List.length_nil]; omega

section
variable {X : Cx} {pins : List (Addr × Obj)} {σ : St} {H : Hp} {s : Shared} {a : Addr} {y v : V} {u r : Value} {o : Option V} {A : Around} {E : Value → Shared → Prop}
theorem keyAt {b : Addr} {ks : List Key} (I : Inv X pins σ H s) (h : SqT X.K H b (ks.map kV)) : (tupleKind (mixKind X.prog X.w)).is s.heap ks b := by
  obtain ⟨its, r, p, hz⟩ := I.tuple h
  obtain ⟨o, h1, h2, n, h3⟩ := p
  exact ⟨o, its.toArray, n, h1, h2, h3, by simpa using items_are r⟩
theorem dtAt {kvs : List (List Key × Addr × V)} (I : Inv X pins σ H s) (e : H a = some (dtO X.prog X.w a kvs)) (hk : ∀ p ∈ kvs, SqT X.K H p.2.1 (p.1.map kV)) :
    kvs.length ≤ sizeLine ∧ (a == sysModules) = false ∧ ∃ xs, KD kvs xs ∧ s.heap.DictOfH (tupleKind (mixKind X.prog X.w)) a xs := by
  obtain ⟨⟨z, y, xs, rel, o, es, ep, h1, h2, h3, h4, h5⟩, _⟩ := (show ObjOk X.prog X.w H s.heap a (dtO X.prog X.w a kvs) from I.hok a _ e)
  refine ⟨z, y, xs, rel, o, es, ep, h1, h2, h3, h4, ?_, h5⟩
  have all : ∀ {l : List (List Key × Addr × V)} {m : List (List Key × Addr × Value)}, KD l m → (∀ p ∈ l, SqT X.K H p.2.1 (p.1.map kV)) → ∀ x ∈ m, (tupleKind (mixKind X.prog X.w)).is s.heap x.1 x.2.1 := by
    intro l m q
    induction q with
    | nil => intro _ x hx; exact nomatch hx
    | @cons p q ps qs hq t ih =>
      intro hl x hx
      rcases List.mem_cons.mp hx with e | hx
      · subst e
        rw [← hq.1, ← hq.2.1]
        exact keyAt I (hl p (by simp))
      · exact ih (fun p hp => hl p (by simp [hp])) x hx
  exact all rel hk
/-- what the dict at a holds at the key y -/
def DG (P : Program) (w : World) (K : PySem.W.Frag) (H : Hp) (a : Addr) (y : V) (r : Option V) : Prop :=
  (∃ kvs k, H a = some (.dK kvs) ∧ y = kV k ∧ r = valV kvs k) ∨ ∃ kvs k b, H a = some (dtO P w a kvs) ∧ (∀ p ∈ kvs, SqT K H p.2.1 (p.1.map kV)) ∧ y = .ref b ∧ SqT K H b (k.map kV) ∧ r = valT kvs k
theorem g_getItem {Q : Value → Shared → Prop} (hu : A.units + 1 < cLine) (I : Inv X pins σ H s) (g : DG X.prog X.w X.K H a y (some v)) (ry : RelV y u) (h : ∀ w' s', Inv X pins σ H s' → RelV v w' → Q w' s') :
    wpAny (model X.prog X.w) A (getItem (.ref a) u) Q E s := by
  rcases g with ⟨kvs, k, e, ey, l⟩ | ⟨kvs, k, b, e, hk, ey, eb, l⟩
  · exact d_getItem hu I (.inl ⟨kvs, k, .inl e, ey, l⟩) ry h
  · subst ey
    cases (show u = Value.ref b from ry)
    obtain ⟨z, hd, xs, rel, dd⟩ := dtAt I e hk
    obtain ⟨w', hw, rw'⟩ := RelO.some_of (v := v) (o := (atKey xs k).map (·.2)) (by rw [l]; exact rel.val k)
    obtain ⟨p, hp, hp2⟩ := Option.map_eq_some_iff.mp hw
    refine wpAny_getItem_heap (tupleKind_room_in1 hu) (keyAt I eb) dd hp ?_
    rw [hp2]
    exact h w' _ (I.tok _) rw'
theorem g_in {Q : Value → Shared → Prop} (hu : A.units + 1 < cLine) (I : Inv X pins σ H s) (g : DG X.prog X.w X.K H a y o) (ry : RelV y u) (h : ∀ s', Inv X pins σ H s' → Q (.bool o.isSome) s') :
    wpAny (model X.prog X.w) A (compareOp .In u (.ref a)) Q E s := by
  rcases g with ⟨kvs, k, e, ey, l⟩ | ⟨kvs, k, b, e, hk, ey, eb, l⟩
  · exact d_in hu I (.inl ⟨kvs, k, .inl e, ey, l⟩) ry h
  · subst ey
    cases (show u = Value.ref b from ry)
    obtain ⟨z, hd, xs, rel, dd⟩ := dtAt I e hk
    refine wpAny_in_heap (tupleKind_room_in1 hu) (keyAt I eb) hd dd ?_
    have q := (rel.val k).isSome_eq
    rw [Option.isSome_map] at q
    rw [← q, ← l]
    exact h _ (I.tok _)
theorem g_notIn {Q : Value → Shared → Prop} (hu : A.units + 1 < cLine) (I : Inv X pins σ H s) (g : DG X.prog X.w X.K H a y o) (ry : RelV y u) (h : ∀ s', Inv X pins σ H s' → Q (.bool (!o.isSome)) s') :
    wpAny (model X.prog X.w) A (compareOp .NotIn u (.ref a)) Q E s := by
  rcases g with ⟨kvs, k, e, ey, l⟩ | ⟨kvs, k, b, e, hk, ey, eb, l⟩
  · exact d_notIn hu I (.inl ⟨kvs, k, .inl e, ey, l⟩) ry h
  · subst ey
    cases (show u = Value.ref b from ry)
    obtain ⟨z, hd, xs, rel, dd⟩ := dtAt I e hk
    refine wpAny_notIn_heap (tupleKind_room_in1 hu) (keyAt I eb) hd dd ?_
    have q := (rel.val k).isSome_eq
    rw [Option.isSome_map] at q
    rw [← q, ← l]
    exact h _ (I.tok _)
theorem g_get1 {Q : Value → Shared → Prop} (hu : A.units + 1 < cLine) (I : Inv X pins σ H s) (g : DG X.prog X.w X.K H a y o) (ry : RelV y u) (h : ∀ w' s', Inv X pins σ H s' → RelV (o.getD .non) w' → Q w' s') :
    wpAny (model X.prog X.w) A (call (.builtin "dict.get") [.ref a, u]) Q E s := by
  rcases g with ⟨kvs, k, e, ey, l⟩ | ⟨kvs, k, b, e, hk, ey, eb, l⟩
  · exact d_get1 hu I (.inl ⟨kvs, k, .inl e, ey, l⟩) ry h
  · subst ey
    cases (show u = Value.ref b from ry)
    obtain ⟨z, hd, xs, rel, dd⟩ := dtAt I e hk
    refine call_meetsIn PySem.F.slot_dict_get dd.typeIs PySem.F.entry_dict_get (PySem.F.args_dict_get_2 _ _) (meetsH_dict_get (tupleKind (mixKind X.prog X.w)) a b hd) ⟨tupleKind_room_in1 hu, k, xs, keyAt I eb, dd, h _ _ (I.tok _) ?_⟩
    rw [l]
    exact (rel.val k).getD rfl
theorem g_get2 {d : V} {Q : Value → Shared → Prop} (hu : A.units + 1 < cLine) (I : Inv X pins σ H s) (g : DG X.prog X.w X.K H a y o) (ry : RelV y u) (rd : RelV d r) (h : ∀ w' s', Inv X pins σ H s' → RelV (o.getD d) w' → Q w' s') :
    wpAny (model X.prog X.w) A (call (.builtin "dict.get") [.ref a, u, r]) Q E s := by
  rcases g with ⟨kvs, k, e, ey, l⟩ | ⟨kvs, k, b, e, hk, ey, eb, l⟩
  · exact d_get2 hu I (.inl ⟨kvs, k, .inl e, ey, l⟩) ry rd h
  · subst ey
    cases (show u = Value.ref b from ry)
    obtain ⟨z, hd, xs, rel, dd⟩ := dtAt I e hk
    refine call_meetsIn PySem.F.slot_dict_get dd.typeIs PySem.F.entry_dict_get (PySem.F.args_dict_get_3 _ _ _) (meetsH_dict_get_default (tupleKind (mixKind X.prog X.w)) a b hd r) ⟨tupleKind_room_in1 hu, k, xs, keyAt I eb, dd, h _ _ (I.tok _) ?_⟩
    rw [l]
    exact (rel.val k).getD rd
/-- the heap behind a[y] = v -/
def DP (P : Program) (w : World) (K : PySem.W.Frag) (H : Hp) (a : Addr) (y v : V) (H' : Hp) : Prop :=
  (∃ kvs k, H a = some (.dK kvs) ∧ y = kV k ∧ kvs.length < sizeLine ∧ H' = upd H a (.dK (putK kvs k v))) ∨
  ∃ kvs k b, H a = some (dtO P w a kvs) ∧ (∀ p ∈ kvs, SqT K H p.2.1 (p.1.map kV)) ∧ y = .ref b ∧ SqT K H b (k.map kV) ∧ kvs.length < sizeLine ∧ H' = upd H a (dtO P w a (putD kvs k b v))
theorem dtO_ok {P : Program} {w : World} {H' : Hp} {h' : Heap} {kvs : List (List Key × Addr × V)} {xs : List (List Key × Addr × Value)} (z : kvs.length ≤ sizeLine) (hd : (a == sysModules) = false) (rel : KD kvs xs) (dd : h'.DictOfH (tupleKind (mixKind P w)) a xs) :
    ObjOk P w H' h' a (dtO P w a kvs) := by
  obtain ⟨o, es, ep, h1, h2, h3, h4, _, h5⟩ := dd
  refine ⟨⟨z, hd, xs, rel, o, es, ep, h1, h2, h3, h4, h5⟩, ⟨o, h1⟩, fun g1 g2 q k => ?_⟩
  obtain ⟨z, hd, xs, rel, o, es, ep, h1, h2, h3, h4, h5⟩ := q
  exact ⟨z, hd, xs, rel, o, es, ep, k _ h1, h2, h3, h4, h5⟩
theorem g_setItem {H' : Hp} {Q : Unit → Shared → Prop} (hu : A.units + 1 < cLine) (I : Inv X pins σ H s) (g : DP X.prog X.w X.K H a y v H') (ry : RelV y u) (rv : RelV v r) (h : ∀ s', Inv X pins σ H' s' → Q () s') :
    wpAny (model X.prog X.w) A (setItem (.ref a) u r) Q E s := by
  rcases g with ⟨kvs, k, e, ey, l, eH⟩ | ⟨kvs, k, b, e, hk, ey, eb, l, eH⟩
  · exact d_setItem hu I (.inl ⟨kvs, k, e, ey, l, eH⟩) ry rv h
  · subst ey eH
    cases (show u = Value.ref b from ry)
    obtain ⟨z, hd, xs, rel, dd⟩ := dtAt I e hk
    have hz : xs.length ≤ sizeLine := by rw [← Paired.length rel]; exact z
    have hl : (putD kvs k b v).length ≤ sizeLine := by have := length_putD kvs k b v; omega
    refine wpAny_setItem_heap (hsz := hz) (tupleKind_room_in1 hu) (keyAt I eb) dd fun h' dd' hs => h _ ?_
    have he : ∃ q, h'.get? a = some q := let ⟨q, _, _, hq, _⟩ := dd'; ⟨q, hq⟩
    exact d_write I (by rw [e]; exact True.intro) hs he (dtO_ok hl hd (rel.put k rv) dd')
theorem ix_dict (hu : X.A.units + 1 < cLine) : IxR X (fun x y H Q => ∃ a v, x = .ref a ∧ DG X.prog X.w X.K H a y (some v) ∧ Q v H) := by
  intro value slice pins s σ H x y v u Q I rx ry h hs
  obtain ⟨a, z, rfl, g, q⟩ := h
  obtain rfl : v = Value.ref a := rx
  have ht : s.TypeIs (.ref a) "dict" := by
    rcases g with ⟨kvs, k, e, ey, l⟩ | ⟨kvs, k, b, e, hk, ey, eb, l⟩
    · obtain ⟨_, _, vs, _, dd⟩ := dk_of I.hok e
      exact dd.typeIs
    · obtain ⟨z, hd, xs, rel, dd⟩ := dtAt I e hk
      exact dd.typeIs
  exact tail_any ht PySem.F.slot_dict_getitem.lookup (g_getItem hu I g ry fun w' s' I' r' => ⟨z, H, I', r', q⟩) hs
theorem op_inD (hu : X.A.units + 64 < cLine) : OpR X (compareOp .In) (fun y x H Q => ∃ a o, x = .ref a ∧ DG X.prog X.w X.K H a y o ∧ Q (.bl o.isSome) H) := by
  intro pins s σ H x y v u Q I rx ry h
  obtain ⟨a, o, rfl, g, q⟩ := h
  obtain rfl : u = Value.ref a := ry
  exact g_in (by omega) I g rx fun s' I' => ⟨.bl o.isSome, H, I', rfl, q⟩
theorem op_notInD (hu : X.A.units + 64 < cLine) : OpR X (compareOp .NotIn) (fun y x H Q => ∃ a o, x = .ref a ∧ DG X.prog X.w X.K H a y o ∧ Q (.bl (!o.isSome)) H) := by
  intro pins s σ H x y v u Q I rx ry h
  obtain ⟨a, o, rfl, g, q⟩ := h
  obtain rfl : u = Value.ref a := ry
  exact g_notIn (by omega) I g rx fun s' I' => ⟨.bl (!o.isSome), H, I', rfl, q⟩
theorem mt_get1 (hu : X.A.units + 64 < cLine) : MtR X "dict.get" (fun x ys H Q => ∃ a y o, x = .ref a ∧ ys = [y] ∧ DG X.prog X.w X.K H a y o ∧ Q (o.getD .non) H) := by
  intro pins s σ H x xs v us Q I rx rs h
  obtain ⟨a, y, o, rfl, rfl, g, q⟩ := h
  obtain rfl : v = Value.ref a := rx
  obtain ⟨u, rfl, ru⟩ := rs.one
  exact g_get1 (by omega) I g ru fun w' s' I' r' => ⟨_, H, I', r', q⟩
theorem mt_get2 (hu : X.A.units + 64 < cLine) : MtR X "dict.get" (fun x ys H Q => ∃ a y z o, x = .ref a ∧ ys = [y, z] ∧ DG X.prog X.w X.K H a y o ∧ Q (o.getD z) H) := by
  intro pins s σ H x xs v us Q I rx rs h
  obtain ⟨a, y, z, o, rfl, rfl, g, q⟩ := h
  obtain rfl : v = Value.ref a := rx
  obtain ⟨u, u2, rfl, ru, ru2⟩ := rs.two
  exact g_get2 (by omega) I g ru ru2 fun w' s' I' r' => ⟨_, H, I', r', q⟩
/-- a dict of either kind -/
def IsDd (P : Program) (w : World) (K : PySem.W.Frag) (x : V) (H : Hp) : Prop := ∃ a, x = .ref a ∧ ((∃ kvs, H a = some (.dK kvs)) ∨ ∃ kvs, H a = some (dtO P w a kvs) ∧ ∀ p ∈ kvs, SqT K H p.2.1 (p.1.map kV))
theorem isDd_at {x : V} {v : Value} (I : Inv X pins σ H s) (r : RelV x v) (d : IsDd X.prog X.w X.K x H) :
    s.TypeIs v "dict" ∧ ∀ b, v = .ref b → ∃ ob, s.heap.get? b = some ob ∧ ob.dict = none := by
  obtain ⟨a, rfl, d⟩ := d
  obtain rfl : v = Value.ref a := r
  rcases d with ⟨kvs, e⟩ | ⟨kvs, e, hk⟩
  · obtain ⟨_, hd, vs, _, dd⟩ := dk_of I.hok e
    refine ⟨dd.typeIs, fun b q => ?_⟩
    cases q
    obtain ⟨ob, _, _, h1, h2, _⟩ := dd
    exact ⟨ob, h1, h2.2.1⟩
  · obtain ⟨_, hd, xs, _, dd⟩ := dtAt I e hk
    refine ⟨dd.typeIs, fun b q => ?_⟩
    cases q
    obtain ⟨ob, _, _, h1, h2, _⟩ := dd
    exact ⟨ob, h1, h2.2.1⟩
/-- d.get(..) -/
theorem pe_mtD {o' e : Expr} {es : List Expr} {name : Str} {id : String} {apos cpos : Pos} {to : TE} {t : TA} {r : V → List V → Hp → VK → Prop} (slot : PySem.Slot "dict" name id) (hty : typeOf (.builtin id) = pure (.type "method_descriptor")) (hm : MtR X id r) (ho : PE X o' to) (ha : PA X (e :: es) t)
    (hbase : attributeBase o' name X.env (eval o' X.env) = eval o' X.env)
    (hfew : ((backTo cpos (starEach (e :: es) X.env)).all (fun x => !x.1) && (backToKw cpos (keywordEach [] X.env)).all (fun x => x.1.isSome)
      && decide ((e :: es).length + ([] : List Keyword).length + (if ([] : List Keyword).isEmpty then 0 else 1) < 30)) = true)
    (hline : (apos.endLine == cpos.line) = true) (hs : starEach (e :: es) X.env = (false, eval e X.env) :: starEach es X.env) (hplain : (backTo cpos (starEach es X.env)).any (·.1) = false) :
    PE X (.Call (.Attribute o' name apos) (e :: es) [] cpos) (fun σ H Q => to σ H fun x H1 => IsDd X.prog X.w X.K x H1 ∧ t σ H1 fun xs H2 => r x xs H2 Q) := by
  refine ⟨fun pins s σ H Q I h => ?_⟩
  refine wpAny_Call_method_late hbase hfew hline rfl (thn (ho.run pins s σ H _ I h) fun v s1 ⟨x, H1, I1, r1, ty, q1⟩ => ?_)
  obtain ⟨h1, h2⟩ := isDd_at I1 r1 ty
  refine ⟨"dict", id, PySem.F.plainAttrs_dict, slot, hty, h1, h2, ?_⟩
  have hA := ha.run cpos pins s1 σ H1 _ I1 q1
  rw [hs] at hA ⊢
  refine Calls.callWith_builtin (by show (false || (backTo cpos (starEach es X.env)).any (·.1)) = false; rw [hplain] <;> rfl) (Calls.evalArgs_plain ?_)
  exact thn hA fun us s2 ⟨vs, H2, I2, r2, q2⟩ => hm pins s2 σ H2 x vs v us Q I2 r1 r2 q2
/-- {}, with tuples for keys -/
theorem pe_dnewT' {pos : Pos} : PE X (.Dict [] [] pos) (fun _ H Q => ∀ p, H p = none → Q (.ref p) (upd H p (dtO X.prog X.w p []))) := ⟨fun pins s σ H Q I h => by
  refine wpAny_Dict_empty ⟨.ref s.heap.objs.size, _, I.laid (a := s.heap.objs.size) (o := dtO X.prog X.w s.heap.objs.size []) (t' := s.toks) (fun _ _ q => Heap.get?_push_of_some _ q) (Nat.le_refl _) ?_, rfl, h _ (I.hok.fresh (Nat.le_refl _))⟩
  exact dtO_ok (xs := []) (Nat.zero_le _) (beq_eq_false_iff_ne.mpr (Ne.symm (Nat.ne_of_lt I.big))) .nil ⟨_, #[], 0, Heap.get?_push_size _ rfl, ⟨rfl, rfl, rfl⟩, rfl, rfl, (by simp), List.nodup_nil⟩⟩
/-- min(t) of a tuple of ints -/
theorem holdInts {h : Heap} : ∀ {ns : List Int} {us : List Value}, Vals (ns.map V.int) us → PySem.W.HoldAll h us ns
  | [], _, r => by cases r; exact PySem.W.HoldAll.nil
  | n :: ns, _, r => by
    rw [List.map_cons] at r
    cases r with
    | cons h1 t =>
      obtain ⟨tk, rfl⟩ := h1
      exact PySem.W.HoldAll.cons ⟨_, .int n tk⟩ (holdInts t)
theorem minOf_minI : ∀ (xs : List Int) (x : Int), PySem.W.minOf x xs = minI x xs
  | [], _ => rfl
  | y :: ys, x => by
    show PySem.W.minOf (if PySem.W.DatumOrd.lt y x = true then y else x) ys = minI (if y < x then y else x) ys
    have e : (if PySem.W.DatumOrd.lt y x = true then y else x) = (if y < x then y else x) := by
      have : PySem.W.DatumOrd.lt y x = decide (y < x) := rfl
      rw [this]
      by_cases z : y < x
      · rw [if_pos z, if_pos (decide_eq_true z)]
      · rw [if_neg z, if_neg (by simpa using z)]
    rw [e]
    exact minOf_minI ys _
theorem cr_minT (hc : X.calm = true) (hu : X.A.units + 64 < cLine) : CallR X (.builtin "min") (fun vs H Q => ∃ a i, ∃ is : List Int, vs = [V.ref a] ∧ SqT X.K H a ((i :: is).map V.int) ∧ Q (.int (minI i is)) H) := by
  intro pins s σ H vs us Q I r h
  obtain ⟨a, i, is, rfl, hs, q⟩ := h
  obtain ⟨its, rv, hl, _⟩ := I.tuple hs
  rw [Vals.ref1 r]
  have hd : (PySem.W.Datum.depth Int : Nat) = 0 := rfl
  refine PySem.W.min_tuple_datum (x := i) (xs := is) (I.ok.hd hc) (show s.heap.IsTuple a its.toArray from hl) (by simpa using holdInts rv) (by rw [hd]; omega) fun j v h' tk hj hv hk => ?_
  rw [minOf_minI] at hv
  obtain ⟨as, rd⟩ := hv
  have rd' : Reads h' v (.int (minI i is)) as := rd
  cases rd'
  exact ⟨.int _, H, I.kept hk, ⟨_, rfl⟩, q⟩
theorem maxOf_maxI : ∀ (xs : List Int) (x : Int), PySem.W.maxOf x xs = maxI x xs
  | [], _ => rfl
  | y :: ys, x => by
    show PySem.W.maxOf (if PySem.W.DatumOrd.lt x y = true then y else x) ys = maxI (if x < y then y else x) ys
    have e : (if PySem.W.DatumOrd.lt x y = true then y else x) = (if x < y then y else x) := by
      have : PySem.W.DatumOrd.lt x y = decide (x < y) := rfl
      rw [this]
      by_cases z : x < y
      · rw [if_pos z, if_pos (decide_eq_true z)]
      · rw [if_neg z, if_neg (by simpa using z)]
    rw [e]
    exact maxOf_maxI ys _
theorem cr_maxT (hc : X.calm = true) (hu : X.A.units + 64 < cLine) : CallR X (.builtin "max") (fun vs H Q => ∃ a i, ∃ is : List Int, vs = [V.ref a] ∧ SqT X.K H a ((i :: is).map V.int) ∧ Q (.int (maxI i is)) H) := by
  intro pins s σ H vs us Q I r h
  obtain ⟨a, i, is, rfl, hs, q⟩ := h
  obtain ⟨its, rv, hl, _⟩ := I.tuple hs
  rw [Vals.ref1 r]
  have hd : (PySem.W.Datum.depth Int : Nat) = 0 := rfl
  refine PySem.W.max_tuple_datum (x := i) (xs := is) (I.ok.hd hc) (show s.heap.IsTuple a its.toArray from hl) (by simpa using holdInts rv) (by rw [hd]; omega) fun j v h' tk hj hv hk => ?_
  rw [maxOf_maxI] at hv
  obtain ⟨as, rd⟩ := hv
  have rd' : Reads h' v (.int (maxI i is)) as := rd
  cases rd'
  exact ⟨.int _, H, I.kept hk, ⟨_, rfl⟩, q⟩
end
end Ev
/-! Operations by values. -/
namespace Ev
open PySem PySem.Spec L2
variable {K : Mx} {F F' G H : Hp} {θ θ' : List Addr} {s : Sta} {σ : St}

abbrev MX (cl : List Str) (X : Cx) : Mx := ⟨X.prog, X.w, X.K, X.mg, cl⟩
def Op.py : Op → Operator
  | .add => .Add | .sub => .Sub | .mul => .Mult | .fdiv => .FloorDiv | .mod => .Mod | .pow => .Pow
def Cp.py : Cp → CmpOp
  | .eq => .Eq | .ne => .NotEq | .lt => .Lt | .le => .LtE | .gt => .Gt | .ge => .GtE | .isN => .Is | .notN => .IsNot | .inn => .In | .nin => .NotIn

/-- what is wanted of a result: the state stands, F has grown -/
def Fin (K : Mx) (F G : Hp) (θ : List Addr) (s : Sta) (σ : St) (t : Tr) (Q : VK) : Prop :=
  ∀ u H' F', Rel K F' G θ s σ H' → FLe F F' → Rp K F' θ t u → Q u H'
theorem Fin.same {t : Tr} {u : V} {Q : VK} (k : Fin K F G θ s σ t Q) (R : Rel K F G θ s σ H) (r : Rp K F θ t u) : Q u H := k u H F R (FLe.refl F) r
theorem Fin.tup {l : List Tr} {xs : List V} {Q : VK} {p : Addr} (k : Fin K F G θ s σ (.tup l) Q) (R : Rel K F G θ s σ H) (n : H p = none) (r : Rps K F θ l xs) : Q (.ref p) (upd H p (.tup xs)) :=
  k _ _ _ (R.newF n) (FLe.upd1 (R.m.fle.none n)) (.tup (SqT.of upd_same) (r.mono (FLe.upd1 (R.m.fle.none n)) (List.prefix_refl _)))
theorem Fin.lst {l : List Tr} {xs : List V} {Q : VK} {p : Addr} (k : Fin K F G θ s σ (.lst l) Q) (R : Rel K F G θ s σ H) (n : H p = none) (r : Rps K F θ l xs) : Q (.ref p) (upd H p (.lst xs)) :=
  k _ _ _ (R.newF n) (FLe.upd1 (R.m.fle.none n)) (.lst upd_same (r.mono (FLe.upd1 (R.m.fle.none n)) (List.prefix_refl _)))

def rOp (K : Mx) (x y t : Tr) : R2 := fun v w H Q => ∃ F G θ s σ, Rel K F G θ s σ H ∧ RpH K F θ H x v ∧ RpH K F θ H y w ∧ Fin K F G θ s σ t Q
theorem tupH {l : List Tr} {v : V} (r : RpH K F θ H (.tup l) v) (h : FLe F H) : ∃ a xs, v = .ref a ∧ SqT K H a xs ∧ Rps K F θ l xs ∧ SqT K F a xs := by
  have r' : Rp K F θ (.tup l) v := r
  cases r' with
  | tup e q => exact ⟨_, _, rfl, h.tup e, q, e⟩
theorem intH {i : Int} {v : V} (r : RpH K F θ H (.int i) v) : v = .int i := by
  have r' : Rp K F θ (.int i) v := r
  cases r'; rfl
theorem strH {i : Str} {v : V} (r : RpH K F θ H (.str i) v) : v = .str i := by
  have r' : Rp K F θ (.str i) v := r
  cases r'; rfl
theorem blH {i : Bool} {v : V} (r : RpH K F θ H (.bl i) v) : v = .bl i := by
  have r' : Rp K F θ (.bl i) v := r
  cases r'; rfl
theorem nonH {v : V} (r : RpH K F θ H .non v) : v = .non := by
  have r' : Rp K F θ .non v := r
  cases r'; rfl
theorem flstH {l : List Tr} {v : V} (r : RpH K F θ H (.flst l) v) (h : FLe F H) : ∃ a xs, v = .ref a ∧ SqL K H a xs ∧ Rps K F θ l xs := by
  have r' : Rp K F θ (.flst l) v := r
  cases r' with
  | flst e q => exact ⟨_, _, rfl, h.lst e, q⟩

theorem op_powB {X : Cx} : OpR X (binaryOp .Pow) (rI (fun i j => 0 ≤ j ∧ (Builtin.Int.intBits i : Int) * j ≤ 2 ^ 27) fun i j => .int (i ^ j.toNat)) := opI fun _ _ _ _ _ _ _ hc q => PyProof.Rows.pow_int hc.1 hc.2 q

theorem opB_ok {cl : List Str} {X : Cx} {o : Op} {x y t : Tr} (h : opB o x y = some t) : OpR X (binaryOp o.py) (rOp (MX cl X) x y t) := by
  intro pins s0 σ0 H v w v' w' Q I rv rw ⟨F, G, θ, s, σ, R, r1, r2, k⟩
  unfold opB at h
  split at h
  · cases h
    cases intH r1; cases intH r2
    exact op_add pins s0 σ0 H _ _ _ _ Q I rv rw ⟨_, _, rfl, rfl, k.same R (.int _)⟩
  · split at h
    · cases h
      cases strH r1; cases strH r2
      exact op_add_str pins s0 σ0 H _ _ _ _ Q I rv rw ⟨_, _, rfl, rfl, by assumption, k.same R (.str _)⟩
    · cases h
  · split at h
    · rename_i hz
      cases h
      obtain ⟨a, xs, rfl, ha, qa, fa⟩ := tupH r1 R.m.fle
      obtain ⟨b, ys, rfl, hb, qb, fb⟩ := tupH r2 R.m.fle
      refine op_catA pins s0 σ0 H _ _ _ _ Q I rv rw ⟨a, b, xs, ys, rfl, rfl, ha, hb, by rw [qa.length, qb.length]; exact hz, fun e => ?_, fun e e' => ?_, fun _ _ p np => ?_⟩
      · subst e
        cases qa
        exact k.same R (.tup fb qb)
      · subst e'
        cases qb
        exact k.same R (.tup fa (by simpa using qa))
      · exact k.tup R np (qa.append qb)
    · cases h
  · split at h
    · rename_i hz
      cases h
      obtain ⟨a, xs, rfl, ha, qa⟩ := r1
      obtain ⟨b, ys, rfl, hb, qb⟩ := r2
      exact op_cat pins s0 σ0 H _ _ _ _ Q I rv rw ⟨a, b, xs, ys, rfl, rfl, ha, hb, by rw [qa.length, qb.length]; exact hz, fun p np => k.lst R np (qa.append qb)⟩
    · cases h
  · cases h
    cases intH r1; cases intH r2
    exact op_sub pins s0 σ0 H _ _ _ _ Q I rv rw ⟨_, _, rfl, rfl, k.same R (.int _)⟩
  · split at h
    · cases h
      cases intH r1; cases intH r2
      exact op_mulW pins s0 σ0 H _ _ _ _ Q I rv rw ⟨_, _, rfl, rfl, by assumption, k.same R (.int _)⟩
    · cases h
  · split at h
    · rename_i hz
      cases h
      obtain ⟨a, xs, rfl, ha, qa⟩ := r1
      cases intH r2
      exact op_rep pins s0 σ0 H _ _ _ _ Q I rv rw ⟨a, _, xs, rfl, rfl, ha, hz.1, hz.2.1, by rw [qa.length]; exact hz.2.2, fun p np => k.lst R np (qa.rep _)⟩
    · cases h
  · split at h
    · cases h
      cases intH r1; cases intH r2
      exact op_fdivW pins s0 σ0 H _ _ _ _ Q I rv rw ⟨_, _, rfl, rfl, by assumption, k.same R (.int _)⟩
    · cases h
  · split at h
    · cases h
      cases intH r1; cases intH r2
      exact op_mod pins s0 σ0 H _ _ _ _ Q I rv rw ⟨_, _, rfl, rfl, by assumption, k.same R (.int _)⟩
    · cases h
  · split at h
    · cases h
      cases intH r1; cases intH r2
      exact op_powB pins s0 σ0 H _ _ _ _ Q I rv rw ⟨_, _, rfl, rfl, by assumption, k.same R (.int _)⟩
    · cases h
  · cases h
theorem opB_nb {o : Op} {x y t : Tr} (h : opB o x y = some t) : x.pure = true ∧ y.pure = true := by
  cases o <;> cases x <;> cases y <;> first | exact ⟨rfl, rfl⟩ | (exact nomatch h)

/-! ### data -/
mutual
theorem dp_of (hF : FLe F H) : ∀ (t : Tr) (v : V) (d : PyData), t.data = some d → RpH K F θ H t v → Dp K H v d
  | .non, v, d, e, r => by
    cases e; cases nonH r; exact .non
  | .bl b, v, d, e, r => by
    cases e; cases blH r; exact .bl b
  | .int i, v, d, e, r => by
    cases e; cases intH r; exact .int i
  | .str x, v, d, e, r => by
    cases e; cases strH r; exact .str x
  | .tup l, v, d, e, r => by
    obtain ⟨a, xs, rfl, h, q, _⟩ := tupH r hF
    simp only [Tr.data] at e
    cases e2 : datas l with
    | none => rw [e2] at e; cases e
    | some ds =>
      rw [e2] at e
      cases e
      exact .tup h (dps_of hF l xs ds e2 q)
  | .lst l, v, d, e, r => by
    obtain ⟨a, xs, rfl, h, q⟩ := r
    simp only [Tr.data] at e
    cases e2 : datas l with
    | none => rw [e2] at e; cases e
    | some ds =>
      rw [e2] at e
      cases e
      exact .lst (SqL.of h) (dps_of hF l xs ds e2 q)
  | .flst l, v, d, e, r => by
    obtain ⟨a, xs, rfl, h, q⟩ := flstH r hF
    simp only [Tr.data] at e
    cases e2 : datas l with
    | none => rw [e2] at e; cases e
    | some ds =>
      rw [e2] at e
      cases e
      exact .lst h (dps_of hF l xs ds e2 q)
  | .dk _ _, v, d, e, r => by cases e
  | .dt _ _, v, d, e, r => by cases e
  | .ins _ _ _, v, d, e, r => by cases e
  | .ob n, v, d, e, r => by cases e
  | .bor n, v, d, e, r => by cases e
theorem dps_of (hF : FLe F H) : ∀ (l : List Tr) (vs : List V) (ds : List PyData), datas l = some ds → Rps K F θ l vs → DpAll K H vs ds
  | [], vs, ds, e, r => by
    cases r
    simp only [datas] at e
    cases e
    exact .nil
  | t :: l, vs, ds, e, r => by
    cases r with
    | cons r1 r2 =>
      simp only [datas] at e
      cases e1 : t.data with
      | none => rw [e1] at e; cases e
      | some d =>
        cases e2 : datas l with
        | none => rw [e1, e2] at e; cases e
        | some ds' =>
          rw [e1, e2] at e
          cases e
          exact .cons (dp_of hF t _ d e1 (RpH.of hF r1)) (dps_of hF l _ ds' e2 r2)
end
theorem eqT_cases {x y : Tr} {b : Bool} (h : eqT x y = some b) : (∃ i j : Str, x = .str i ∧ y = .str j ∧ b = decide (i = j)) ∨ (∃ i j : Int, x = .int i ∧ y = .int j ∧ b = decide (i = j)) ∨ eqD x y = some b := by
  unfold eqT at h
  split at h
  · cases h; exact .inl ⟨_, _, rfl, rfl, rfl⟩
  · cases h; exact .inr (.inl ⟨_, _, rfl, rfl, rfl⟩)
  · exact .inr (.inr h)
theorem eqT_ok {x y : Tr} {b : Bool} (h : eqD x y = some b) : ∃ d e, x.data = some d ∧ y.data = some e ∧ SeqAt.shaped d = true ∧ SeqAt.shaped e = true ∧ b = PyData.eqv d e := by
  unfold eqD at h
  split at h
  · rename_i d e hd he
    split at h
    · rename_i hs
      rw [Bool.and_eq_true] at hs
      cases h
      exact ⟨d, e, hd, he, hs.1, hs.2, rfl⟩
    · cases h
  · cases h
theorem flat_ok {x : Tr} {v w : V} (h : flat x = some w) (r : RpH K F θ H x v) : v = w ∧ flatV v = true := by
  cases x with
  | non => cases h; cases nonH r; exact ⟨rfl, rfl⟩
  | bl b => cases h; cases blH r; exact ⟨rfl, rfl⟩
  | int b => cases h; cases intH r; exact ⟨rfl, rfl⟩
  | str b => cases h; cases strH r; exact ⟨rfl, rfl⟩
  | _ => cases h
theorem flats_ok (hF : FLe F H) : ∀ {l : List Tr} {vs ws : List V}, flats l = some ws → Rps K F θ l vs → vs = ws ∧ vs.all flatV = true
  | [], _, _, h, .nil => by cases h; exact ⟨rfl, rfl⟩
  | t :: l, _, _, h, .cons r1 r2 => by
    simp only [flats] at h
    cases e1 : flat t with
    | none => rw [e1] at h; cases h
    | some d =>
      cases e2 : flats l with
      | none => rw [e1, e2] at h; cases h
      | some ds' =>
        rw [e1, e2] at h
        cases h
        obtain ⟨rfl, f1⟩ := flat_ok e1 (RpH.of hF r1)
        obtain ⟨rfl, f2⟩ := flats_ok hF e2 r2
        exact ⟨rfl, by rw [List.all_cons, f1, f2]; rfl⟩
theorem keyT_ok {x : Tr} {k : Key} {v : V} (h : keyT x = some k) (r : RpH K F θ H x v) : v = kV k := by
  cases x with
  | int i => cases h; cases intH r; rfl
  | str i => cases h; cases strH r; rfl
  | _ => cases h
theorem keysT_ok (hF : FLe F H) : ∀ {l : List Tr} {ks : List Key} {vs : List V}, keysT l = some ks → Rps K F θ l vs → vs = ks.map kV
  | [], _, _, h, .nil => by cases h; rfl
  | t :: l, _, _, h, .cons r1 r2 => by
    simp only [keysT] at h
    cases e1 : keyT t with
    | none => rw [e1] at h; cases h
    | some k =>
      cases e2 : keysT l with
      | none => rw [e1, e2] at h; cases h
      | some ks' =>
        rw [e1, e2] at h
        cases h
        rw [List.map_cons, ← keyT_ok e1 (RpH.of hF r1), ← keysT_ok hF e2 r2]
theorem getK_ok {κ : Type} [DecidableEq κ] {k : κ} : ∀ {kvs : List (κ × V)} {l : List Tr}, Rps K F θ l (kvs.map (·.2)) → (∀ t, getK k (kvs.map (·.1)) l = some t → ∃ v, valV kvs k = some v ∧ Rp K F θ t v) ∧ (getK k (kvs.map (·.1)) l = none → valV kvs k = none)
  | [], [], _ => ⟨fun t h => (nomatch h), fun _ => rfl⟩
  | [], _ :: _, r => by cases r
  | p :: kvs, [], r => by cases r
  | p :: kvs, t :: l, r => by
    rw [List.map_cons] at r
    cases r with
    | cons r1 r2 =>
      obtain ⟨i1, i2⟩ := getK_ok (k := k) r2
      rw [List.map_cons]
      by_cases e : p.1 = k
      · rw [valV_pos e]
        have : getK k (p.1 :: kvs.map (·.1)) (t :: l) = some t := if_pos e
        rw [this]
        exact ⟨fun t' h => by cases h; exact ⟨_, rfl, r1⟩, fun h => by cases h⟩
      · rw [valV_neg e]
        have : getK k (p.1 :: kvs.map (·.1)) (t :: l) = getK k (kvs.map (·.1)) l := if_neg e
        rw [this]
        exact ⟨i1, i2⟩
theorem valT_valV (k : List Key) : ∀ kvs : List (List Key × Addr × V), valT kvs k = valV (kvs.map fun p => (p.1, p.2.2)) k
  | [] => rfl
  | p :: r => by
    rw [List.map_cons]
    by_cases e : p.1 = k
    · rw [valV_pos (p := (p.1, p.2.2)) e]
      simp [valT, List.find?_cons, e]
    · rw [valV_neg (p := (p.1, p.2.2)) e, ← valT_valV k r]
      simp [valT, List.find?_cons, e]
/-- a look-up, as the heap has it -/
theorem dgetT_ok (hF : FLe F H) {d y : Tr} {o : Option Tr} {v w : V} (h : dgetT d y = some o) (r1 : RpH K F θ H d v) (r2 : RpH K F θ H y w) : ∃ a r, v = .ref a ∧ DG K.P K.w K H a w r ∧ (∀ t, o = some t → ∃ x, r = some x ∧ Rp K F θ t x) ∧ (o = none → r = none) := by
  unfold dgetT at h
  split at h
  · obtain ⟨k, hk, rfl⟩ := (show ∃ k, keyT y = some k ∧ getK k _ _ = o by cases e : keyT y with
      | none => rw [e] at h; cases h
      | some k => rw [e] at h; exact ⟨k, rfl, Option.some.inj h⟩)
    obtain ⟨a, kvs, rfl, e, e2, q⟩ := r1
    subst e2
    obtain ⟨i1, i2⟩ := getK_ok (k := k) q
    exact ⟨a, valV kvs k, rfl, .inl ⟨kvs, k, e, keyT_ok hk r2, rfl⟩, i1, i2⟩
  · rename_i ks vs l
    obtain ⟨k, hk, rfl⟩ := (show ∃ k, keysT l = some k ∧ getK k _ _ = o by cases e : keysT l with
      | none => rw [e] at h; cases h
      | some k => rw [e] at h; exact ⟨k, rfl, Option.some.inj h⟩)
    obtain ⟨a, kvs, rfl, e, e2, q, hks⟩ := r1
    subst e2
    obtain ⟨b, xs, rfl, hb, qb, _⟩ := tupH r2 hF
    obtain rfl := keysT_ok hF hk qb
    have q' : Rps K F θ vs ((kvs.map fun p => (p.1, p.2.2)).map (·.2)) := by rw [List.map_map]; exact q
    obtain ⟨i1, i2⟩ := getK_ok (k := k) q'
    have em : (kvs.map fun p => (p.1, p.2.2)).map (·.1) = kvs.map (·.1) := by rw [List.map_map]; rfl
    rw [em, ← valT_valV] at i1 i2
    exact ⟨a, valT kvs k, rfl, .inr ⟨kvs, k, b, e, fun p hp => hF.tup (hks p hp), rfl, hb, rfl⟩, i1, i2⟩
  · cases h
/-- a comparison's reading -/
def rCp (K : Mx) (x y : Tr) (b : Bool) : R2 := fun v w H Q => ∃ F θ, FLe F H ∧ RpH K F θ H x v ∧ RpH K F θ H y w ∧ Q (.bl b) H
/-- x among data of any depth -/
def rInQ (K : Mx) (b : Bool) (x y : V) (H : Hp) : Prop := ∃ d ds, Dp K.K H x d ∧ (Dp K.K H y (.list ds) ∨ Dp K.K H y (.tuple ds)) ∧ SeqAt.shaped d = true ∧ PyData.canLayAll0 ds = true ∧ d.depth ≤ 60 ∧ b = ds.any fun z => PyData.eqv z d
theorem inQ_ok {x y : Tr} {b : Bool} {v w : V} (hF : FLe F H) (h : inQ x y = some b) (r1 : RpH K F θ H x v) (r2 : RpH K F θ H y w) : rInQ K b v w H := by
  unfold inQ at h
  split at h
  · rename_i d ds h1 h2
    split at h
    · rename_i hc
      cases h
      simp only [Bool.and_eq_true, decide_eq_true_eq] at hc
      exact ⟨d, ds, dp_of hF _ _ _ h1 r1, .inl (dp_of hF _ _ _ h2 r2), hc.1.1, SeqAt.canLay_of_shaped hc.1.2, hc.2, rfl⟩
    · cases h
  · rename_i d ds h1 h2
    split at h
    · rename_i hc
      cases h
      simp only [Bool.and_eq_true, decide_eq_true_eq] at hc
      exact ⟨d, ds, dp_of hF _ _ _ h1 r1, .inr (dp_of hF _ _ _ h2 r2), hc.1.1, SeqAt.canLay_of_shaped hc.1.2, hc.2, rfl⟩
    · cases h
  · cases h
theorem op_inQ {cl : List Str} {X : Cx} (hu : X.A.units + 64 < cLine) : OpR X (compareOp .In) (fun x y H Q => ∃ b, rInQ (MX cl X) b x y H ∧ Q (.bl b) H) := by
  intro pins s σ H x y v u Q I rx ry h
  obtain ⟨b, ⟨d, ds, hd, he, sd, se, hz, rfl⟩, q⟩ := h
  obtain ⟨as, r1⟩ := Dp.reads I d x v hd rx
  have h2 : min (PyData.depthAll ds) d.depth ≤ d.depth := Nat.min_le_right _ _
  rcases he with he | he
  · obtain ⟨bs, r2⟩ := Dp.reads I _ y u he ry
    exact SeqAt.in_list_reads r2 r1 se (SeqAt.canLay_of_shaped sd) (by omega) ⟨.bl _, H, I, rfl, q⟩
  · obtain ⟨bs, r2⟩ := Dp.reads I _ y u he ry
    exact SeqAt.in_tuple_reads r2 r1 se (SeqAt.canLay_of_shaped sd) (by omega) ⟨.bl _, H, I, rfl, q⟩
theorem op_notInQ {cl : List Str} {X : Cx} (hu : X.A.units + 64 < cLine) : OpR X (compareOp .NotIn) (fun x y H Q => ∃ b, rInQ (MX cl X) b x y H ∧ Q (.bl (!b)) H) := by
  intro pins s σ H x y v u Q I rx ry h
  obtain ⟨b, ⟨d, ds, hd, he, sd, se, hz, rfl⟩, q⟩ := h
  obtain ⟨as, r1⟩ := Dp.reads I d x v hd rx
  have h2 : min (PyData.depthAll ds) d.depth ≤ d.depth := Nat.min_le_right _ _
  rcases he with he | he
  · obtain ⟨bs, r2⟩ := Dp.reads I _ y u he ry
    exact SeqAt.notIn_list_reads r2 r1 se (SeqAt.canLay_of_shaped sd) (by omega) ⟨.bl _, H, I, rfl, q⟩
  · obtain ⟨bs, r2⟩ := Dp.reads I _ y u he ry
    exact SeqAt.notIn_tuple_reads r2 r1 se (SeqAt.canLay_of_shaped sd) (by omega) ⟨.bl _, H, I, rfl, q⟩
theorem inT_ok {x y : Tr} {b : Bool} {v w : V} (hF : FLe F H) (h : inT x y = some b) (r1 : RpH K F θ H x v) (r2 : RpH K F θ H y w) :
    (∃ p xs, w = .ref p ∧ (SqL K H p xs ∨ SqT K H p xs) ∧ flatV v = true ∧ xs.all flatV = true ∧ b = inV v xs) ∨ (∃ i j, v = .str i ∧ w = .str j ∧ b = !(Builtin.Str.occurrences j i 0 j.length 1).isEmpty) ∨ (∃ a o, w = .ref a ∧ DG K.P K.w K H a v o ∧ b = o.isSome) ∨ rInQ K b v w H := by
  have dct : ∀ {d : Tr}, (dgetT d x).map Option.isSome = some b → RpH K F θ H d w → ∃ a o, w = .ref a ∧ DG K.P K.w K H a v o ∧ b = o.isSome := by
    intro d hh rr
    cases e : dgetT d x with
    | none => rw [e] at hh; cases hh
    | some o =>
      rw [e] at hh
      cases hh
      obtain ⟨a, r, h1, h2, h3, h4⟩ := dgetT_ok hF e rr r1
      refine ⟨a, r, h1, h2, ?_⟩
      cases o with
      | none => rw [h4 rfl]; rfl
      | some t => obtain ⟨z, h5, _⟩ := h3 t rfl; rw [h5]; rfl
  have go : ∀ {l : List Tr} {xs : List V} {a : Addr}, (match flat x, flats l with
      | some v, some vs => some (inV v vs)
      | _, _ => inQ x y) = some b → (SqL K H a xs ∨ SqT K H a xs) → Rps K F θ l xs → (∃ p xs, V.ref a = .ref p ∧ (SqL K H p xs ∨ SqT K H p xs) ∧ flatV v = true ∧ xs.all flatV = true ∧ b = inV v xs) ∨ inQ x y = some b := by
    intro l xs a h q r
    split at h
    · rename_i v' vs' h1 h2
      cases h
      obtain ⟨rfl, f1⟩ := flat_ok h1 r1
      obtain ⟨rfl, f2⟩ := flats_ok hF h2 r
      exact .inl ⟨a, _, rfl, q, f1, f2, rfl⟩
    · exact .inr h
  have go2 : ∀ {l : List Tr} {xs : List V} {a : Addr}, w = .ref a → (match flat x, flats l with
      | some v, some vs => some (inV v vs)
      | _, _ => inQ x y) = some b → (SqL K H a xs ∨ SqT K H a xs) → Rps K F θ l xs → (∃ p xs, w = .ref p ∧ (SqL K H p xs ∨ SqT K H p xs) ∧ flatV v = true ∧ xs.all flatV = true ∧ b = inV v xs) ∨ (∃ i j, v = .str i ∧ w = .str j ∧ b = !(Builtin.Str.occurrences j i 0 j.length 1).isEmpty) ∨ (∃ a o, w = .ref a ∧ DG K.P K.w K H a v o ∧ b = o.isSome) ∨ rInQ K b v w H := by
    intro l xs a hw h q r
    subst hw
    rcases go h q r with g | g
    · exact .inl g
    · exact .inr (.inr (.inr (inQ_ok hF g r1 r2)))
  cases y with
  | tup l =>
    obtain ⟨a, xs, rfl, q, r, _⟩ := tupH r2 hF
    exact go2 rfl h (.inr q) r
  | lst l =>
    obtain ⟨a, xs, rfl, q, r⟩ := r2
    exact go2 rfl h (.inl (SqL.of q)) r
  | flst l =>
    obtain ⟨a, xs, rfl, q, r⟩ := flstH r2 hF
    exact go2 rfl h (.inl q) r
  | str z =>
    cases strH r2
    simp only [inT] at h
    cases x with
    | str y =>
      cases strH r1
      cases h
      exact .inr (.inl ⟨y, z, rfl, rfl, rfl⟩)
    | _ => cases h
  | dk ks vs => exact .inr (.inr (.inl (dct h r2)))
  | dt ks vs => exact .inr (.inr (.inl (dct h r2)))
  | _ => cases h
theorem map_some {α β : Type} {f : α → β} {o : Option α} {b : β} (h : o.map f = some b) : ∃ a, o = some a ∧ f a = b := by
  cases o with
  | none => cases h
  | some a => exact ⟨a, rfl, by simpa using h⟩
theorem opC_ok {cl : List Str} {X : Cx} {o : Cp} {x y : Tr} {b : Bool} (hu : X.A.units + 64 < cLine) (h : opC o x y = some b) : OpR X (compareOp o.py) (rCp (MX cl X) x y b) := by
  intro pins s0 σ0 H v w v' w' Q I rv rw ⟨F, θ, hF, r1, r2, k⟩
  unfold opC at h
  split at h
  · rcases eqT_cases h with ⟨i, j, rfl, rfl, rfl⟩ | ⟨i, j, rfl, rfl, rfl⟩ | h
    · cases strH r1
      cases strH r2
      exact op_eq pins s0 σ0 H _ _ _ _ Q I rv rw ⟨rfl, by simpa using k⟩
    · cases intH r1
      cases intH r2
      exact op_eq pins s0 σ0 H _ _ _ _ Q I rv rw ⟨rfl, by simpa using k⟩
    obtain ⟨d, e, h1, h2, h3, h4, rfl⟩ := eqT_ok h
    exact op_eqD hu pins s0 σ0 H _ _ _ _ Q I rv rw ⟨d, e, dp_of hF _ _ _ h1 r1, dp_of hF _ _ _ h2 r2, h3, h4, k⟩
  · obtain ⟨c, hc, rfl⟩ := map_some h
    rcases eqT_cases hc with ⟨i, j, rfl, rfl, rfl⟩ | ⟨i, j, rfl, rfl, rfl⟩ | hc
    · cases strH r1
      cases strH r2
      exact op_ne pins s0 σ0 H _ _ _ _ Q I rv rw ⟨rfl, by simpa using k⟩
    · cases intH r1
      cases intH r2
      exact op_ne pins s0 σ0 H _ _ _ _ Q I rv rw ⟨rfl, by simpa using k⟩
    obtain ⟨d, e, h1, h2, h3, h4, rfl⟩ := eqT_ok hc
    exact op_neD hu pins s0 σ0 H _ _ _ _ Q I rv rw ⟨d, e, dp_of hF _ _ _ h1 r1, dp_of hF _ _ _ h2 r2, h3, h4, k⟩
  · cases h; cases intH r1; cases intH r2
    exact op_lt pins s0 σ0 H _ _ _ _ Q I rv rw ⟨_, _, rfl, rfl, k⟩
  · cases h; cases intH r1; cases intH r2
    exact op_le pins s0 σ0 H _ _ _ _ Q I rv rw ⟨_, _, rfl, rfl, k⟩
  · cases h; cases intH r1; cases intH r2
    exact op_gt pins s0 σ0 H _ _ _ _ Q I rv rw ⟨_, _, rfl, rfl, k⟩
  · cases h; cases intH r1; cases intH r2
    exact op_ge pins s0 σ0 H _ _ _ _ Q I rv rw ⟨_, _, rfl, rfl, k⟩
  · cases nonH r2
    refine op_isN pins s0 σ0 H _ _ _ _ Q I rv rw ⟨rfl, ?_⟩
    have e : decide (v = V.non) = b := by
      cases x <;> first
        | (cases h; cases nonH r1; rfl)
        | (cases h; cases blH r1; rfl)
        | (cases h; cases intH r1; rfl)
        | (cases h; cases strH r1; rfl)
        | (cases h; obtain ⟨_, _, rfl, _⟩ := tupH r1 hF; rfl)
        | (cases h; obtain ⟨_, _, rfl, _⟩ := flstH r1 hF; rfl)
        | (cases h; obtain ⟨_, _, rfl, _⟩ := r1; rfl)
        | (cases h; obtain ⟨_, _, _, _, rfl, _⟩ := r1; rfl)
        | (cases h; exact r1.elim)
        | (cases h; have r' : Rp _ _ _ (Tr.ob _) _ := r1; cases r'; rfl)
    rw [e]
    exact k
  · cases nonH r2
    refine op_notN pins s0 σ0 H _ _ _ _ Q I rv rw ⟨rfl, ?_⟩
    have e : (!decide (v = V.non)) = b := by
      cases x <;> first
        | (cases h; cases nonH r1; rfl)
        | (cases h; cases blH r1; rfl)
        | (cases h; cases intH r1; rfl)
        | (cases h; cases strH r1; rfl)
        | (cases h; obtain ⟨_, _, rfl, _⟩ := tupH r1 hF; rfl)
        | (cases h; obtain ⟨_, _, rfl, _⟩ := flstH r1 hF; rfl)
        | (cases h; obtain ⟨_, _, rfl, _⟩ := r1; rfl)
        | (cases h; obtain ⟨_, _, _, _, rfl, _⟩ := r1; rfl)
        | (cases h; exact r1.elim)
        | (cases h; have r' : Rp _ _ _ (Tr.ob _) _ := r1; cases r'; rfl)
    rw [e]
    exact k
  · cases h; cases blH r1; cases blH r2
    exact op_is_bl pins s0 σ0 H _ _ _ _ Q I rv rw ⟨_, _, rfl, rfl, k⟩
  · cases h; cases blH r1; cases blH r2
    exact op_isnot_bl pins s0 σ0 H _ _ _ _ Q I rv rw ⟨_, _, rfl, rfl, k⟩
  · rcases inT_ok hF h r1 r2 with ⟨p, xs, rfl, q, f1, f2, rfl⟩ | ⟨i, j, rfl, rfl, rfl⟩ | ⟨a, o, rfl, g, rfl⟩ | g
    · exact op_in_seq pins s0 σ0 H _ _ _ _ Q I rv rw ⟨p, xs, rfl, q, f1, f2, k⟩
    · exact op_in_str pins s0 σ0 H _ _ _ _ Q I rv rw ⟨i, j, rfl, rfl, k⟩
    · exact op_inD hu pins s0 σ0 H _ _ _ _ Q I rv rw ⟨a, o, rfl, g, k⟩
    · exact op_inQ hu pins s0 σ0 H _ _ _ _ Q I rv rw ⟨b, g, k⟩
  · obtain ⟨c, hc, rfl⟩ := map_some h
    rcases inT_ok hF hc r1 r2 with ⟨p, xs, rfl, q, f1, f2, rfl⟩ | ⟨i, j, rfl, rfl, rfl⟩ | ⟨a, o, rfl, g, rfl⟩ | g
    · exact op_notIn_seq pins s0 σ0 H _ _ _ _ Q I rv rw ⟨p, xs, rfl, q, f1, f2, k⟩
    · exact op_notin_str pins s0 σ0 H _ _ _ _ Q I rv rw ⟨i, j, rfl, rfl, k⟩
    · exact op_notInD hu pins s0 σ0 H _ _ _ _ Q I rv rw ⟨a, o, rfl, g, k⟩
    · exact op_notInQ hu pins s0 σ0 H _ _ _ _ Q I rv rw ⟨c, g, k⟩
  · cases h
theorem data_nb {x : Tr} {d : PyData} (h : x.data = some d) : x.pure = true := by cases x <;> first | rfl | (exact nomatch h)
end Ev
/-! Defs that are called where no repr is under way: as FnOk, with that fact handed on. -/
namespace Ev
open PySem PySem.Spec L2
open PyProof.Rows hiding St

structure FnG (P : Program) (w : World) (K : PySem.W.Frag) (mg : Str → Option Value) (base : Heap) (k : Nat) (f : Addr) (fd : FuncData) (ps : List Str) (sp : Sp) : Prop where
  len : ∀ vs H Q E, sp vs H Q E → vs.length = ps.length
  run : ∀ (A : Around) (outer : List Env) (s : Shared) (H : Hp) (args : Args) (us : List Value) (vs : List V) (Q : VK) (E : XK), Room k A → A.guards = some [] → Env0 P w K mg base A outer s H →
    BindsTo s fd args (ps.zip us) → Vals vs us → sp vs H Q E → codeAny (model P w) A (.call (.ref f) args) (CR CX0 outer P w H s Q E) s
variable {P : Program} {w : World} {K : PySem.W.Frag} {mg : Str → Option Value} {base : Heap} {k : Nat} {f : Addr} {fd : FuncData} {ps N : List Str} {sp : Sp}
theorem FnG.mono {j : Nat} (F : FnG P w K mg base j f fd ps sp) (h : j ≤ k) : FnG P w K mg base k f fd ps sp :=
  ⟨F.len, fun A outer s H args us vs Q E hr => F.run A outer s H args us vs Q E (hr.mono h)⟩

theorem fnG {x qual : Str} {st : Stmt} (F : Fun K x qual st f fd) (S : FnScope N ps (defScope st)) (len : ∀ vs H Q E, sp vs H Q E → vs.length = ps.length)
    (hbody : ∀ (cdv : Value) (A : Around) (outer : List Env) (s : Shared) (H : Hp) (vs : List V) (Q : VK) (E : XK), Room k (A.deeper (envOfC qual (defScope st) s.heap.objs.size f cdv)) → A.guards = some [] → sp vs H Q E →
      ∃ t, PSs (cxOf CX0 P w K mg base N qual (defScope st) f cdv A outer s H E).nox (defBody st) t ∧ t { nx := fun _ H' => Q .non H', rt := Q } (start N vs) H) : FnG P w K mg base (k + 1) f fd ps sp := by
  obtain ⟨oc, od, kV, doc, pm, an, cdv, ct, osl, rfl, lk, hcd⟩ := F.ex
  refine ⟨len, fun A outer s H args us vs Q E hr hgd e0 hb r hsp => ?_⟩
  have KX : K.In s.heap := e0.mod.kin.keeps fun b o e => (e0.bs b o e).1
  have lim : s.heap.NoLimit := e0.mod.nolimit.keeps fun b o e => (e0.bs b o e).1
  have hkind : ∀ y ∈ ps.zip us, (defScope st).names.lookup y.1 = some .local ∨ ((defScope st).names.lookup y.1 = some .cell ∧ ((cellsFrom (s.heap.objs.size + 1) (defScope st).names []).lookup y.1).isSome = true) := by
    rintro ⟨n, v⟩ hy
    rcases S.par n (List.of_mem_zip hy).1 with q | q
    · exact .inl q
    · exact .inr ⟨q, PySem.W.cellsFrom_some _ _ _ (.inl q)⟩
  have hlen := len _ _ _ _ hsp
  refine codeAny_call_function hr.depth (KX _ _ lk) rfl S.co S.gen rfl (PySem.W.codeRec_of KX hcd) (hb _ _ _ _ ?_)
  refine wpAny_newFunctionEnv_cells S.kind hkind fun env he s1 x => ?_
  subst he
  refine ⟨lim.keeps x.toInCall.keep, codeAny_func ?_⟩
  obtain ⟨t, ht, hq⟩ := hbody cdv A outer s H vs Q E (hr.deeper _) hgd hsp
  have I : Inv (cxOf CX0 P w K mg base N qual (defScope st) f cdv A outer s H E) [] (start N vs) H s1 := inv_start S hr.hd e0 hlen r x
  refine wpAny_mono (ht.nox.run [] s1 (start N vs) H _ I hq) (fun fl s' hs => ?_) fun e s' hs => hs
  cases fl with
  | ret u =>
    obtain ⟨v, σ', H', J, rv, q⟩ := hs
    exact ⟨v, H', J.os, J.bare, J.base, J.hok, rv, q⟩
  | next =>
    obtain ⟨σ', H', J, q⟩ := hs
    exact ⟨V.non, H', J.os, J.bare, J.base, J.hok, rfl, q⟩
  | brk => exact hs.elim fun _ z => z.elim fun _ z => z.2.elim
  | cont => exact hs.elim fun _ z => z.elim fun _ z => z.2.elim

section
variable {X : Cx} {x : Str} {p pos : Pos} {e : Expr} {es : List Expr} {t : TA}
theorem run_fnG {pins : List (Addr × Obj)} {σ : St} {H : Hp} {s : Shared} {Q : VK} {us : List Value} {vs : List V} (F : FnG X.prog X.w X.K X.mg X.base k f fd ps sp) (hr : Room k X.A) (hgd : X.A.guards = some []) (hb : Binds X.K fd ps [])
    (I : Inv X pins σ H s) (r : Vals vs us) (h : sp vs H Q E0) : wpAny (model X.prog X.w) X.A (call (.ref f) us) (EP X pins σ Q) X.xe s := by
  have hl : (us ++ []).length = ps.length := by rw [List.append_nil, ← r.length]; exact F.len _ _ _ _ h
  have hbt := hb s us I.kIn hl
  rw [List.append_nil] at hbt
  refine wpAny_call (codeAny_mono (F.run X.A X.stack s H ⟨us, []⟩ us vs Q E0 hr hgd I.env0 hbt r h) fun rr s' hq => ?_)
  cases rr with
  | error e => exact False.elim hq
  | ok fl =>
    cases fl with
    | ret u => exact I.after hq
    | _ => exact False.elim hq
theorem pe_callG (F : FnG X.prog X.w X.K X.mg X.base k f fd ps sp) (hr : Room k X.A) (hgd : X.A.guards = some []) (hg : Gl X x) (hm : X.mg x = some (.ref f)) (hk : PySem.W.keepIn X.K (.ref f) = true) (hb : Binds X.K fd ps [])
    (ha : PA X (e :: es) t) (hdb : (x == ("__debug__" : Str)) = false) (he : starEach (e :: es) X.env = (false, eval e X.env) :: starEach es X.env) (hpl : (backTo pos (starEach es X.env)).any (·.1) = false) :
    PE X (.Call (.Name x p) (e :: es) [] pos) (tCall sp [] E0 t) := by
  refine ⟨fun pins s σ H Q I h => ?_⟩
  refine wpAny_Call_Name_kw (ld_glob I hg hm ?_ hdb)
  refine PySem.W.callWith_K (h₀ := X.base) I.ok.mod.kin hk (thn (ha.run pos pins s σ H _ I h) fun us s1 ⟨vs, H1, I1, r, q⟩ => ⟨I1.kIn, ?_⟩) he hpl
  replace q : sp (vs ++ []) H1 Q E0 := q
  rw [List.append_nil] at q
  exact run_fnG F hr hgd hb I1 r q
theorem pe_callG0 (F : FnG X.prog X.w X.K X.mg X.base k f fd ps sp) (hr : Room k X.A) (hgd : X.A.guards = some []) (hg : Gl X x) (hm : X.mg x = some (.ref f)) (hk : PySem.W.keepIn X.K (.ref f) = true) (hb : Binds X.K fd ps [])
    (hdb : (x == ("__debug__" : Str)) = false) : PE X (.Call (.Name x p) [] [] pos) (tCall sp [] E0 tNil) := by
  refine ⟨fun pins s σ H Q I h => ?_⟩
  refine wpAny_Call_Name_kw (ld_glob I hg hm ?_ hdb)
  exact PySem.W.callWith_K0 I.kIn hk (run_fnG (us := []) F hr hgd hb I .nil h)
/-! a new instance of a class -/
variable {C : Addr}
theorem make_guards {A : Around} {us : List Value} {kw : List (Str × Value)} : (A.under (.builtin "type.__call__" ⟨.ref C :: us, kw⟩)).guards = A.guards := by
  first | rfl | simp [Around.under, Code.weight, Code.isCreation, Code.isGuard, Code.isCaller, Code.frames, Code.isFrame, guardIds]
theorem run_makeG {pins : List (Addr × Obj)} {σ : St} {H : Hp} {s : Shared} {Q : VK} {us : List Value} {vs : List V} (M : Mk X.K C f) (F : FnG X.prog X.w X.K X.mg X.base k f fd ps sp) (hr : Room (k + 1) X.A) (hgd : X.A.guards = some []) (hb : Binds X.K fd ps [])
    (I : Inv X pins σ H s) (r : Vals vs us)
    (h : ∀ x dx, H x = none → H dx = none → dx ≠ x → sp (.ref x :: vs) (upd (upd H dx (.own x)) x (.ins C dx [])) (fun v H2 => v = .non ∧ Q (.ref x) H2) E0) :
    wpAny (model X.prog X.w) X.A (call (.ref C) us) (EP X pins σ Q) X.xe s := by
  have hq := h (s.heap.objs.size + 1) s.heap.objs.size (I.hok.fresh (Nat.le_succ _)) (I.hok.fresh (Nat.le_refl _)) (Nat.ne_of_lt (Nat.lt_succ_self _))
  have I2 := Inv.made (C := C) I
  have r2 : Vals (V.ref (s.heap.objs.size + 1) :: vs) (Value.ref (s.heap.objs.size + 1) :: us) := .cons rfl r
  have hl : (Value.ref (s.heap.objs.size + 1) :: us ++ []).length = ps.length := by
    have e := r2.length
    rw [F.len _ _ _ _ hq] at e
    rw [List.append_nil]
    exact e.symm
  have hbt := hb { s with heap := (s.heap.push PySem.W.emptyDict).push (PySem.W.instObj C s.heap.objs.size) } (Value.ref (s.heap.objs.size + 1) :: us) I2.kIn hl
  rw [List.append_nil] at hbt
  refine wpAny_call (make_map (f := f) I.kIn M.makes M.init (beq_iff_eq.mp M.fn) (codeAny_mono (F.run _ X.stack _ _ ⟨Value.ref (s.heap.objs.size + 1) :: us, []⟩ (Value.ref (s.heap.objs.size + 1) :: us) _ _ E0 (hr.make C us []) (make_guards.trans hgd)
    (I2.env0.make C us []) hbt r2 hq) fun r s' hq' => ?_))
  cases r with
  | error e => exact False.elim hq'
  | ok fl =>
    cases fl with
    | ret u =>
      obtain ⟨v, H', I3, rv, ev, q3⟩ := I2.after hq'
      subst ev
      exact ⟨rv, ⟨V.ref (s.heap.objs.size + 1), H', I3, rfl, q3⟩⟩
    | next => exact False.elim hq'
    | brk => exact False.elim hq'
    | cont => exact False.elim hq'
def tMakeG (C : Addr) (sp : Sp) (t : TA) : TE := fun σ H Q => t σ H fun vs H1 => ∀ x dx, H1 x = none → H1 dx = none → dx ≠ x → sp (.ref x :: vs) (upd (upd H1 dx (.own x)) x (.ins C dx [])) (fun v H2 => v = .non ∧ Q (.ref x) H2) E0
theorem pe_makeG (M : Mk X.K C f) (F : FnG X.prog X.w X.K X.mg X.base k f fd ps sp) (hr : Room (k + 1) X.A) (hgd : X.A.guards = some []) (hg : Gl X x) (hm : X.mg x = some (.ref C)) (hb : Binds X.K fd ps [])
    (ha : PA X (e :: es) t) (hdb : (x == ("__debug__" : Str)) = false) (he : starEach (e :: es) X.env = (false, eval e X.env) :: starEach es X.env) (hpl : (backTo pos (starEach es X.env)).any (·.1) = false) :
    PE X (.Call (.Name x p) (e :: es) [] pos) (tMakeG C sp t) := by
  refine ⟨fun pins s σ H Q I h => ?_⟩
  refine wpAny_Call_Name_kw (ld_glob I hg hm ?_ hdb)
  refine PySem.W.callWith_K (h₀ := X.base) I.ok.mod.kin M.kp (thn (ha.run pos pins s σ H _ I h) fun us s1 ⟨vs, H1, I1, r, q⟩ => ⟨I1.kIn, ?_⟩) he hpl
  exact run_makeG M F hr hgd hb I1 r q
end
end Ev
/-! Built-in functions by values. -/
namespace Ev
open PySem PySem.Spec L2
variable {K : Mx} {F F' G H : Hp} {θ θ' : List Addr} {s : Sta} {σ : St}

inductive RpHs (K : Mx) (F : Hp) (θ : List Addr) (H : Hp) : List Tr → List V → Prop
  | nil : RpHs K F θ H [] []
  | cons {t : Tr} {l : List Tr} {v : V} {vs : List V} : RpH K F θ H t v → RpHs K F θ H l vs → RpHs K F θ H (t :: l) (v :: vs)
def rBi (K : Mx) (ts : List Tr) (t : Tr) : List V → Hp → VK → Prop := fun vs H Q => ∃ F G θ s σ, Rel K F G θ s σ H ∧ RpHs K F θ H ts vs ∧ Fin K F G θ s σ t Q

theorem seqH (hF : FLe F H) {x : Tr} {l : List Tr} {v : V} (h : seqT x = some l) (r : RpH K F θ H x v) : ∃ a xs, v = .ref a ∧ (SqL K H a xs ∨ SqT K H a xs) ∧ Rps K F θ l xs := by
  cases x with
  | tup m => cases h; obtain ⟨a, xs, rfl, q, r, _⟩ := tupH r hF; exact ⟨a, xs, rfl, .inr q, r⟩
  | lst m => cases h; obtain ⟨a, xs, rfl, q, r⟩ := r; exact ⟨a, xs, rfl, .inl (SqL.of q), r⟩
  | flst m => cases h; obtain ⟨a, xs, rfl, q, r⟩ := flstH r hF; exact ⟨a, xs, rfl, .inl q, r⟩
  | _ => cases h
theorem intsOf_ok : ∀ {l : List Tr} {xs : List V} {is : List Int}, intsOf l = some is → Rps K F θ l xs → xs = is.map V.int
  | [], _, _, h, .nil => by simp only [intsOf] at h; cases h; rfl
  | t :: l, _, _, h, .cons r1 r2 => by
    cases t with
    | int i =>
      simp only [intsOf] at h
      cases e : intsOf l with
      | none => rw [e] at h; cases h
      | some is' =>
        rw [e] at h
        cases h
        cases r1
        rw [List.map_cons, intsOf_ok e r2]
    | _ => simp only [intsOf] at h; cases h
theorem boolsOf_ok : ∀ {l : List Tr} {xs : List V} {is : List Bool}, boolsOf l = some is → Rps K F θ l xs → xs = is.map V.bl
  | [], _, _, h, .nil => by simp only [boolsOf] at h; cases h; rfl
  | t :: l, _, _, h, .cons r1 r2 => by
    cases t with
    | bl i =>
      simp only [boolsOf] at h
      cases e : boolsOf l with
      | none => rw [e] at h; cases h
      | some is' =>
        rw [e] at h
        cases h
        cases r1
        rw [List.map_cons, boolsOf_ok e r2]
    | _ => simp only [boolsOf] at h; cases h

/-- repr of data -/
theorem call_reprD {X : Cx} (hg : X.A.guards = some []) (hu : X.A.units + 200 < cLine) : CallR X (.builtin "repr") (fun xs H Q => ∃ x d, xs = [x] ∧ Dp X.K H x d ∧ d.showable = true ∧ d.hasDict = false ∧ d.shown.length ≤ sizeLine ∧ d.depth ≤ 64 ∧ Q (.str d.shown) H) := by
  intro pins s σ H xs us Q I r h
  obtain ⟨x, d, rfl, hd, hs, hn, hz, h64, q⟩ := h
  obtain ⟨u, rfl, ru⟩ := vals1 r
  cases d with
  | none =>
    cases hd; cases ru
    exact PySem.P.repr_of_none ⟨.str _, H, I.tok _, ⟨_, rfl⟩, q⟩
  | bool b =>
    cases hd; cases ru
    exact PySem.P.repr_of_bool ⟨.str _, H, I.tok _, ⟨_, rfl⟩, by cases b <;> exact q⟩
  | int i =>
    cases hd; obtain ⟨t, rfl⟩ := ru
    exact PySem.P.repr_of_int (by simpa [PyData.showable] using hs) ⟨.str _, H, I.tok _, ⟨_, rfl⟩, q⟩
  | str z =>
    cases hd; obtain ⟨t, rfl⟩ := ru
    exact PySem.P.repr_of_str ⟨.str _, H, I.tok _, ⟨_, rfl⟩, q⟩ hz
  | dict kvs => cases hd
  | list ds =>
    obtain ⟨as, rd⟩ := Dp.reads I (.list ds) x u hd ru
    cases hd
    cases ru
    exact repr_of_reads' rd hs (PyData.noDict_hsm hn) hg (by omega) (fun _ _ e => e) (fun h' u tk hk => ⟨.str _, H, I.kept hk, ⟨_, rfl⟩, q⟩) hz
  | tuple ds =>
    obtain ⟨as, rd⟩ := Dp.reads I (.tuple ds) x u hd ru
    cases hd
    cases ru
    exact repr_of_reads' rd hs (PyData.noDict_hsm hn) hg (by omega) (fun _ _ e => e) (fun h' u tk hk => ⟨.str _, H, I.kept hk, ⟨_, rfl⟩, q⟩) hz
mutual
theorem data_noDict : ∀ (t : Tr) (d : PyData), t.data = some d → d.hasDict = false
  | .non, d, e => by cases e; rfl
  | .bl b, d, e => by cases e; rfl
  | .int i, d, e => by cases e; rfl
  | .str x, d, e => by cases e; rfl
  | .tup l, d, e => by
    simp only [Tr.data] at e
    cases e2 : datas l with
    | none => rw [e2] at e; cases e
    | some ds => rw [e2] at e; cases e; simpa only [PyData.hasDict] using datas_noDict l ds e2
  | .lst l, d, e => by
    simp only [Tr.data] at e
    cases e2 : datas l with
    | none => rw [e2] at e; cases e
    | some ds => rw [e2] at e; cases e; simpa only [PyData.hasDict] using datas_noDict l ds e2
  | .flst l, d, e => by
    simp only [Tr.data] at e
    cases e2 : datas l with
    | none => rw [e2] at e; cases e
    | some ds => rw [e2] at e; cases e; simpa only [PyData.hasDict] using datas_noDict l ds e2
  | .dk _ _, d, e => by cases e
  | .dt _ _, d, e => by cases e
  | .ins _ _ _, d, e => by cases e
  | .ob n, d, e => by cases e
  | .bor n, d, e => by cases e
theorem datas_noDict : ∀ (l : List Tr) (ds : List PyData), datas l = some ds → PyData.hasDictAll ds = false
  | [], ds, e => by simp only [datas] at e; cases e; rfl
  | t :: l, ds, e => by
    simp only [datas] at e
    cases e1 : t.data with
    | none => rw [e1] at e; cases e
    | some d =>
      cases e2 : datas l with
      | none => rw [e1, e2] at e; cases e
      | some ds' =>
        rw [e1, e2] at e
        cases e
        simp only [PyData.hasDictAll, data_noDict t d e1, datas_noDict l ds' e2]
        rfl
end

/-- the built-in by its name and value -/
def Bi.nm : Bi → Str
  | .len => "len" | .abs => "abs" | .int => "int" | .sum => "sum" | .max2 => "max" | .min2 => "min" | .listRg => "list" | .listOf => "list" | .tupOf => "tuple" | .all => "all" | .any => "any" | .repr => "repr"
  | .isInt => "isinstance" | .isBool => "isinstance" | .isStr => "isinstance" | .isTup => "isinstance"
  | .strOf => "str" | .minOf => "min" | .maxOf => "max" | .sorted => "sorted"
def Bi.fnId : Bi → Option String
  | .len => some "len" | .abs => some "abs" | .sum => some "sum" | .max2 => some "max" | .min2 => some "min" | .all => some "all" | .any => some "any" | .repr => some "repr" | .minOf => some "min" | .maxOf => some "max" | .sorted => some "sorted"
  | _ => none
def Bi.tyId : Bi → Option String
  | .int => some "int" | .listOf => some "list" | .tupOf => some "tuple" | .strOf => some "str"
  | _ => none
theorem fn_boot {b : Bi} {id : String} (h : b.fnId = some id) : bootBuiltins b.nm = some (.builtin id) := by
  cases b <;> cases h <;> decide +kernel
theorem ty_boot {b : Bi} {id : String} (h : b.tyId = some id) : bootBuiltins b.nm = some (.type id) := by
  cases b <;> cases h <;> decide +kernel
theorem nm_ne (b : Bi) : b.nm ≠ "__name__" := by cases b <;> decide +kernel
theorem nm_db (b : Bi) : (b.nm == ("__debug__" : Str)) = false := by cases b <;> decide +kernel

/-- sorted(xs) of data -/
theorem cr_sortedD {cl : List Str} {X : Cx} {F : Hp} {θ : List Addr} (hu : X.A.units + 200 < cLine) : CallR X (.builtin "sorted") (fun vs H Q => ∃ a xs l, vs = [V.ref a] ∧ SqL X.K H a xs ∧ FLe F H ∧ Rps (MX cl X) F θ l xs ∧ sortOk l = true ∧
    ∀ p ys, H p = none → Rps (MX cl X) F θ (l.mergeSort (PySem.W.dataLe false dat)) ys → Q (.ref p) (upd H p (.lst ys))) := by
  intro pins s σ H vs us Q I rv ⟨a, xs, l, e, hs, hF, r, ho, q⟩
  subst e
  obtain ⟨its, rv2, hl, hz⟩ := I.list hs
  rw [Vals.ref1 rv]
  unfold sortOk at ho
  simp only [Bool.and_eq_true, Bool.or_eq_true] at ho
  obtain ⟨⟨h1, h2⟩, h3⟩ := ho
  have hlen : l.length ≤ sizeLine := by rw [← r.length]; exact hz
  -- pairs of trees and values
  have pair : ∀ {l : List Tr} {xs : List V} {us : List Value}, Rps (MX cl X) F θ l xs → Vals xs us → PySem.W.EachIs (fun (v : Value) (b : Tr × V) => RelV b.2 v ∧ Rp (MX cl X) F θ b.1 b.2) us (l.zip xs) := by
    intro l xs us r v
    induction v generalizing l with
    | nil => cases r; exact .nil
    | cons h1 t ih =>
      cases r with
      | cons r1 r2 => exact .cons ⟨h1, r1⟩ (ih r2)
  have E := pair r rv2
  have zf : ∀ {l : List Tr} {xs : List V}, xs.length = l.length → (l.zip xs).map (·.1) = l := by
    intro l xs e
    exact List.map_fst_zip (by omega)
  have zs : ∀ {l : List Tr} {xs : List V}, xs.length = l.length → (l.zip xs).map (·.2) = xs := by
    intro l xs e
    exact List.map_snd_zip (by omega)
  have zf1 := zf r.length
  have em : (l.zip xs).map (fun b : Tr × V => dat b.1) = l.map dat := by
    conv => rhs; rw [← zf1, List.map_map]
    rfl
  have dOf : ∀ t ∈ l, t.data = some (dat t) ∧ (dat t).depth ≤ 64 := fun t ht => by
    have := List.all_eq_true.mp h1 t ht
    simp only [Bool.and_eq_true, decide_eq_true_eq] at this
    obtain ⟨d, hd⟩ := Option.isSome_iff_exists.mp this.1
    refine ⟨?_, this.2⟩
    unfold dat
    rw [hd]
    rfl
  have er : PySem.W.EachIs (fun (v : Value) (b : Tr × V) => ∃ as, Reads s.heap v (dat b.1) as) its (l.zip xs) := by
    have go : ∀ {us : List Value} {bs : List (Tr × V)}, PySem.W.EachIs (fun (v : Value) (b : Tr × V) => RelV b.2 v ∧ Rp (MX cl X) F θ b.1 b.2) us bs → (∀ b ∈ bs, b.1 ∈ l) → PySem.W.EachIs (fun (v : Value) (b : Tr × V) => ∃ as, Reads s.heap v (dat b.1) as) us bs := by
      intro us bs e hb
      induction e with
      | nil => exact .nil
      | @cons v b vs bs h t ih =>
        refine .cons ?_ (ih fun b' hb' => hb b' (by simp [hb']))
        obtain ⟨hd, _⟩ := dOf b.1 (hb b (by simp))
        exact Dp.reads I (dat b.1) b.2 v (dp_of hF b.1 b.2 (dat b.1) hd (RpH.of hF h.2)) h.1
    exact go E fun b hb => (List.of_mem_zip hb).1
  refine PySem.W.sorted_data (enc := fun b : Tr × V => dat b.1) (bs := l.zip xs) hl.isList E er ?_ ?_ (by rw [List.length_zip, r.length]; omega) (fun b hb => ?_) fun out _ eo => ?_
  · rw [em]
    intro d hd d' hd'
    exact List.all_eq_true.mp (List.all_eq_true.mp h2 d hd) d' hd'
  · rw [em]
    rcases h3 with h3 | h3
    · refine .inl fun d hd => ?_
      have := List.all_eq_true.mp h3 d hd
      unfold isTup1 at this
      split at this
      · exact ⟨_, _, rfl⟩
      · cases this
    · refine .inr fun d hd => ?_
      have := List.all_eq_true.mp h3 d hd
      unfold notTupN at this
      split at this
      · cases this
      · cases this
      · rename_i g1 g2
        exact ⟨fun e => g2 e, fun ys e => g1 ys e⟩
  · have := (dOf b.1 (List.of_mem_zip hb).1).2
    omega
  · have ms : ((l.zip xs).mergeSort (PySem.W.dataLe false fun b : Tr × V => dat b.1)).map (·.1) = l.mergeSort (PySem.W.dataLe false dat) := by
      have e9 := List.map_mergeSort (r := PySem.W.dataLe false fun b : Tr × V => dat b.1) (s := PySem.W.dataLe false dat) (f := fun b : Tr × V => b.1) (l := l.zip xs) (fun _ _ _ _ => rfl)
      rw [e9, zf1]
    have rp : ∀ {us : List Value} {bs : List (Tr × V)}, PySem.W.EachIs (fun (v : Value) (b : Tr × V) => RelV b.2 v ∧ Rp (MX cl X) F θ b.1 b.2) us bs → Rps (MX cl X) F θ (bs.map (·.1)) (bs.map (·.2)) ∧ Vals (bs.map (·.2)) us := by
      intro us bs e
      induction e with
      | nil => exact ⟨.nil, .nil⟩
      | cons h t ih => exact ⟨.cons h.2 ih.1, .cons h.1 ih.2⟩
    obtain ⟨q1, q2⟩ := rp eo
    rw [ms] at q1
    have hp : H (s.heap.objs.size + 1) = none := I.hok.fresh (Nat.le_succ _)
    refine ⟨.ref (s.heap.objs.size + 1), _, ?_, rfl, q _ _ hp q1⟩
    obtain ⟨n, hn⟩ := PyProof.Rows.sortedAll_at s.heap its out.toArray
    refine I.laid (t' := s.toks) (fun _ _ => PyProof.Rows.sortedAll_old) (Nat.le_succ _) ⟨?_, out, n, q2, hn⟩
    rw [q1.length, List.length_mergeSort]
    exact hlen
theorem minI_mem : ∀ (is : List Int) (i : Int), minI i is ∈ i :: is ∧ ∀ j ∈ i :: is, minI i is ≤ j
  | [], i => ⟨by simp [minI], fun j hj => by simp at hj; subst hj; exact Int.le_refl _⟩
  | x :: is, i => by
    show minI (if x < i then x else i) is ∈ i :: x :: is ∧ ∀ j ∈ i :: x :: is, minI (if x < i then x else i) is ≤ j
    by_cases h : x < i
    · rw [if_pos h]
      obtain ⟨h1, h2⟩ := minI_mem is x
      refine ⟨List.mem_cons_of_mem _ h1, fun j hj => ?_⟩
      rcases List.mem_cons.mp hj with rfl | hj
      · have := h2 x (by simp); omega
      · exact h2 j hj
    · rw [if_neg h]
      obtain ⟨h1, h2⟩ := minI_mem is i
      refine ⟨?_, fun j hj => ?_⟩
      · rcases List.mem_cons.mp h1 with e | e
        · rw [e]; simp
        · exact List.mem_cons_of_mem _ (List.mem_cons_of_mem _ e)
      · rcases List.mem_cons.mp hj with rfl | hj
        · exact h2 _ (by simp)
        · rcases List.mem_cons.mp hj with rfl | hj
          · have := h2 i (by simp); omega
          · exact h2 j (by simp [hj])
theorem maxI_mem : ∀ (is : List Int) (i : Int), maxI i is ∈ i :: is ∧ ∀ j ∈ i :: is, j ≤ maxI i is
  | [], i => ⟨by simp [maxI], fun j hj => by simp at hj; subst hj; exact Int.le_refl _⟩
  | x :: is, i => by
    show maxI (if i < x then x else i) is ∈ i :: x :: is ∧ ∀ j ∈ i :: x :: is, j ≤ maxI (if i < x then x else i) is
    by_cases h : i < x
    · rw [if_pos h]
      obtain ⟨h1, h2⟩ := maxI_mem is x
      refine ⟨List.mem_cons_of_mem _ h1, fun j hj => ?_⟩
      rcases List.mem_cons.mp hj with rfl | hj
      · have := h2 x (by simp); omega
      · exact h2 j hj
    · rw [if_neg h]
      obtain ⟨h1, h2⟩ := maxI_mem is i
      refine ⟨?_, fun j hj => ?_⟩
      · rcases List.mem_cons.mp h1 with e | e
        · rw [e]; simp
        · exact List.mem_cons_of_mem _ (List.mem_cons_of_mem _ e)
      · rcases List.mem_cons.mp hj with rfl | hj
        · exact h2 _ (by simp)
        · rcases List.mem_cons.mp hj with rfl | hj
          · have := h2 i (by simp); omega
          · exact h2 j (by simp [hj])
theorem dkH {ks : List Key} {l : List Tr} {v : V} (r : RpH K F θ H (.dk ks l) v) : ∃ a kvs, v = .ref a ∧ H a = some (.dK kvs) ∧ kvs.map (·.1) = ks ∧ Rps K F θ l (kvs.map (·.2)) := r
theorem call_lenDK {X : Cx} : CallR X (.builtin "len") (fun xs H Q => ∃ a kvs, xs = [V.ref a] ∧ H a = some (.dK kvs) ∧ Q (.int kvs.length) H) := by
  intro pins s σ H xs us Q I r h
  obtain ⟨a, kvs, rfl, e, q⟩ := h
  obtain ⟨u, rfl, ru⟩ := vals1 r
  obtain rfl : u = Value.ref a := ru
  exact d_len I (.inl e) fun t s' I' => ⟨.int _, H, I', ⟨_, rfl⟩, q⟩
theorem biT_fn {cl : List Str} {X : Cx} {b : Bi} {ts : List Tr} {t : Tr} {id : String} (hc : X.calm = true) (hg : X.A.guards = some []) (hu : X.A.units + 200 < cLine) (hid : b.fnId = some id) (h : biT b ts = some t) : CallR X (.builtin id) (rBi (MX cl X) ts t) := by
  intro pins s0 σ0 H vs us Q I rv ⟨F, G, θ, s, σ, R, rs, k⟩
  have hF := R.m.fle
  unfold biT at h
  split at h <;> first | (cases h; done) | cases hid
  · cases h
    cases rs with
    | cons r1 r2 => cases r2; obtain ⟨a, xs, rfl, q, r, _⟩ := tupH r1 hF; exact call_len_seq pins s0 σ0 H _ _ Q I rv ⟨a, xs, rfl, .inr q, k.same R (by rw [r.length]; exact .int _)⟩
  · cases h
    cases rs with
    | cons r1 r2 => cases r2; obtain ⟨a, xs, rfl, q, r⟩ := r1; exact call_len_seq pins s0 σ0 H _ _ Q I rv ⟨a, xs, rfl, .inl (SqL.of q), k.same R (by rw [r.length]; exact .int _)⟩
  · cases h
    cases rs with
    | cons r1 r2 => cases r2; obtain ⟨a, xs, rfl, q, r⟩ := flstH r1 hF; exact call_len_seq pins s0 σ0 H _ _ Q I rv ⟨a, xs, rfl, .inl q, k.same R (by rw [r.length]; exact .int _)⟩
  · split at h
    · cases h
      cases rs with
      | cons r1 r2 => cases r2; cases strH r1; exact call_len_str pins s0 σ0 H _ _ Q I rv ⟨_, rfl, by assumption, k.same R (.int _)⟩
    · cases h
  · cases h
    cases rs with
    | cons r1 r2 =>
      cases r2
      obtain ⟨a, kvs, rfl, e, e2, q⟩ := dkH r1
      subst e2
      exact call_lenDK pins s0 σ0 H _ _ Q I rv ⟨a, kvs, rfl, e, by rw [← List.length_map (f := (·.1))]; exact k.same R (.int _)⟩
  · split at h
    · rename_i i is h9
      cases h
      cases rs with
      | cons r1 r2 =>
        cases r2
        obtain ⟨a, xs, rfl, q, r, _⟩ := tupH r1 hF
        obtain rfl := intsOf_ok h9 r
        exact cr_minT hc (by omega) pins s0 σ0 H _ _ Q I rv ⟨a, i, is, rfl, q, k.same R (.int _)⟩
    · cases h
  · split at h
    · rename_i i is h9
      cases h
      cases rs with
      | cons r1 r2 =>
        cases r2
        obtain ⟨a, xs, rfl, q, r⟩ := r1
        obtain rfl := intsOf_ok h9 r
        refine cr_min hc pins s0 σ0 H _ _ Q I rv ⟨a, i :: is, rfl, SqL.of q, by simp, fun m h1 h2 => ?_⟩
        obtain ⟨g1, g2⟩ := minI_mem is i
        have e : m = minI i is := Int.le_antisymm (h2 _ g1) (g2 _ h1)
        rw [e]
        exact k.same R (.int _)
    · cases h
  · split at h
    · rename_i i is h9
      cases h
      cases rs with
      | cons r1 r2 =>
        cases r2
        obtain ⟨a, xs, rfl, q, r⟩ := r1
        obtain rfl := intsOf_ok h9 r
        refine cr_max hc pins s0 σ0 H _ _ Q I rv ⟨a, i :: is, rfl, SqL.of q, by simp, fun m h1 h2 => ?_⟩
        obtain ⟨g1, g2⟩ := maxI_mem is i
        have e : m = maxI i is := Int.le_antisymm (g2 _ h1) (h2 _ g1)
        rw [e]
        exact k.same R (.int _)
    · cases h
  · split at h
    · rename_i i is h9
      cases h
      cases rs with
      | cons r1 r2 =>
        cases r2
        obtain ⟨a, xs, rfl, q, r, _⟩ := tupH r1 hF
        obtain rfl := intsOf_ok h9 r
        exact cr_maxT hc (by omega) pins s0 σ0 H _ _ Q I rv ⟨a, i, is, rfl, q, k.same R (.int _)⟩
    · cases h
  · unfold sortT at h
    split at h
    · rename_i ho
      cases h
      cases rs with
      | cons r1 r2 =>
        cases r2
        obtain ⟨a, xs, rfl, q, r⟩ := r1
        exact cr_sortedD (cl := cl) (F := F) (θ := θ) hu pins s0 σ0 H _ _ Q I rv ⟨a, xs, _, rfl, SqL.of q, hF, r, ho, fun p ys np ry => k.lst R np ry⟩
    · cases h
  · unfold sortT at h
    split at h
    · rename_i ho
      cases h
      cases rs with
      | cons r1 r2 =>
        cases r2
        obtain ⟨a, xs, rfl, q, r⟩ := flstH r1 hF
        exact cr_sortedD (cl := cl) (F := F) (θ := θ) hu pins s0 σ0 H _ _ Q I rv ⟨a, xs, _, rfl, q, hF, r, ho, fun p ys np ry => k.lst R np ry⟩
    · cases h
  · cases h
    cases rs with
    | cons r1 r2 => cases r2; cases intH r1; exact call_abs pins s0 σ0 H _ _ Q I rv ⟨_, rfl, k.same R (.int _)⟩
  · obtain ⟨is, h9, rfl⟩ := map_some h
    cases rs with
    | cons r1 r2 =>
      cases r2
      obtain ⟨a, xs, rfl, q, r⟩ := r1
      obtain rfl := intsOf_ok h9 r
      exact cr_sum hc pins s0 σ0 H _ _ Q I rv ⟨a, is, rfl, SqL.of q, k.same R (.int _)⟩
  · obtain ⟨is, h9, rfl⟩ := map_some h
    cases rs with
    | cons r1 r2 =>
      cases r2
      obtain ⟨a, xs, rfl, q, r⟩ := flstH r1 hF
      obtain rfl := intsOf_ok h9 r
      exact cr_sum hc pins s0 σ0 H _ _ Q I rv ⟨a, is, rfl, q, k.same R (.int _)⟩
  · cases h
    cases rs with
    | cons r1 r2 =>
      cases r2 with
      | cons r2 r3 =>
        cases r3; cases intH r1; cases intH r2
        exact call_max2 hc pins s0 σ0 H _ _ Q I rv ⟨_, _, rfl, k.same R (.int _)⟩
  · cases h
    cases rs with
    | cons r1 r2 =>
      cases r2 with
      | cons r2 r3 =>
        cases r3; cases intH r1; cases intH r2
        exact call_min2 hc pins s0 σ0 H _ _ Q I rv ⟨_, _, rfl, k.same R (.int _)⟩
  · obtain ⟨is, h9, rfl⟩ := map_some h
    cases rs with
    | cons r1 r2 =>
      cases r2
      obtain ⟨a, xs, rfl, q, r⟩ := r1
      obtain rfl := boolsOf_ok h9 r
      exact cr_all hc pins s0 σ0 H _ _ Q I rv ⟨a, is, rfl, SqL.of q, k.same R (.bl _)⟩
  · obtain ⟨is, h9, rfl⟩ := map_some h
    cases rs with
    | cons r1 r2 =>
      cases r2
      obtain ⟨a, xs, rfl, q, r⟩ := r1
      obtain rfl := boolsOf_ok h9 r
      exact cr_any hc pins s0 σ0 H _ _ Q I rv ⟨a, is, rfl, SqL.of q, k.same R (.bl _)⟩
  · unfold reprT at h
    split at h
    · rename_i d hd
      split at h
      · rename_i hh
        simp only [Bool.and_eq_true, decide_eq_true_eq] at hh
        cases h
        cases rs with
        | cons r1 r2 =>
          cases r2
          exact call_reprD hg hu pins s0 σ0 H _ _ Q I rv ⟨_, d, rfl, dp_of hF _ _ _ hd r1, hh.1.1, data_noDict _ _ hd, hh.1.2, hh.2, k.same R (.str _)⟩
      · cases h
    · cases h
theorem biT_ty {cl : List Str} {X : Cx} {b : Bi} {ts : List Tr} {t : Tr} {id : String} (hid : b.tyId = some id) (h : biT b ts = some t) : CallR X (.type id) (rBi (MX cl X) ts t) := by
  intro pins s0 σ0 H vs us Q I rv ⟨F, G, θ, s, σ, R, rs, k⟩
  have hF := R.m.fle
  unfold biT at h
  split at h <;> first | (cases h; done) | cases hid
  · split at h
    · rename_i hz
      cases h
      cases rs with
      | cons r1 r2 => cases r2; cases intH r1; exact call_str_int pins s0 σ0 H _ _ Q I rv ⟨_, rfl, hz, k.same R (.str _)⟩
    · cases h
  · cases h
    cases rs with
    | cons r1 r2 => cases r2; cases strH r1; exact SkE.call_str_str pins s0 σ0 H _ _ Q I rv ⟨_, rfl, k.same R (.str _)⟩
  · cases h
    cases rs with
    | cons r1 r2 => cases r2; cases intH r1; exact call_int1 pins s0 σ0 H _ _ Q I rv (.inl ⟨_, rfl, k.same R (.int _)⟩)
  · cases h
    cases rs with
    | cons r1 r2 => cases r2; cases blH r1; exact call_int1 pins s0 σ0 H _ _ Q I rv (.inr ⟨_, rfl, k.same R (.int _)⟩)
  · split at h
    · rename_i n hn
      split at h
      · rename_i hz
        cases h
        cases rs with
        | cons r1 r2 => cases r2; cases strH r1; exact call_int_str pins s0 σ0 H _ _ Q I rv ⟨_, _, rfl, hn, hz, k.same R (.int _)⟩
      · cases h
    · cases h
  · cases h
    cases rs with
    | cons r1 r2 => cases r2; obtain ⟨a, xs, rfl, q, r, _⟩ := tupH r1 hF; exact call_list_of pins s0 σ0 H _ _ Q I rv ⟨a, xs, rfl, .inr q, fun l hl => k.lst R hl r⟩
  · cases h
    cases rs with
    | cons r1 r2 => cases r2; obtain ⟨a, xs, rfl, q, r⟩ := r1; exact call_list_of pins s0 σ0 H _ _ Q I rv ⟨a, xs, rfl, .inl (SqL.of q), fun l hl => k.lst R hl r⟩
  · cases h
    cases rs with
    | cons r1 r2 => cases r2; obtain ⟨a, xs, rfl, q, r⟩ := flstH r1 hF; exact call_list_of pins s0 σ0 H _ _ Q I rv ⟨a, xs, rfl, .inl q, fun l hl => k.lst R hl r⟩
  · cases h
    cases rs with
    | cons r1 r2 => cases r2; obtain ⟨a, xs, rfl, q, r, f⟩ := tupH r1 hF; exact call_tuple_of pins s0 σ0 H _ _ Q I rv ⟨a, xs, rfl, .inr ⟨q, k.same R (.tup f r)⟩⟩
  · cases h
    cases rs with
    | cons r1 r2 => cases r2; obtain ⟨a, xs, rfl, q, r⟩ := r1; exact call_tuple_of pins s0 σ0 H _ _ Q I rv ⟨a, xs, rfl, .inl ⟨SqL.of q, fun l hl => k.tup R hl r⟩⟩
  · cases h
    cases rs with
    | cons r1 r2 => cases r2; obtain ⟨a, xs, rfl, q, r⟩ := flstH r1 hF; exact call_tuple_of pins s0 σ0 H _ _ Q I rv ⟨a, xs, rfl, .inl ⟨q, fun l hl => k.tup R hl r⟩⟩
/-- isinstance(x, a built-in type) -/
def Bi.isTy : Bi → Option String
  | .isInt => some "int" | .isBool => some "bool" | .isStr => some "str" | .isTup => some "tuple"
  | _ => none
theorem biT_is {cl : List Str} {X : Cx} {b : Bi} {x t : Tr} {id : String} (hid : b.isTy = some id) (h : biT b [x] = some t) : CallR X (.builtin "isinstance") (fun vs H Q => ∃ v, vs = [v, .ty id] ∧ rBi (MX cl X) [x] t [v] H Q) := by
  intro pins s0 σ0 H vs us Q I rv ⟨v, e, F, G, θ, s, σ, R, rs, k⟩
  subst e
  have hF := R.m.fle
  have ty : ∀ {a : Addr} {xs : List V}, SqT X.K H a xs → TyX X.K H (.ref a) (.type "tuple") := by
    intro a xs q
    rcases q with (q | ⟨o, q⟩) | ⟨o, its, n, q, c, _⟩
    · exact .base (.tup q)
    · exact .fTuple q
    · exact .kTuple q c
  cases rs with
  | cons r1 r2 =>
    cases r2
    have go : ∀ (tn : String) (bb : Bool), TyX X.K H v (.type tn) → PySem.W.kitOne X.K (.type tn) (.type id) = some bb → t = .bl bb → wpAny (model X.prog X.w) X.A (call (.builtin "isinstance") us) (EP X pins σ0 Q) X.xe s0 := by
      intro tn bb h1 h2 h3
      subst h3
      exact call_isi pins s0 σ0 H _ _ Q I rv ⟨v, .ty id, .type tn, .type id, bb, rfl, .ty id, h1, h2, k.same R (.bl _)⟩
    cases b <;> cases hid
    all_goals
      cases x with
      | non => cases h; cases nonH r1; exact go "NoneType" _ (.base .non) (kit_ty (by decide +kernel)) rfl
      | bl y => cases h; cases blH r1; exact go "bool" _ (.base (.bl _)) (kit_ty (by decide +kernel)) rfl
      | int y => cases h; cases intH r1; exact go "int" _ (.base (.int _)) (kit_ty (by decide +kernel)) rfl
      | str y => cases h; cases strH r1; exact go "str" _ (.base (.str _)) (kit_ty (by decide +kernel)) rfl
      | tup y => cases h; obtain ⟨a, xs, rfl, q, r, _⟩ := tupH r1 hF; exact go "tuple" _ (ty q) (kit_ty (by decide +kernel)) rfl
      | lst y => cases h; obtain ⟨a, xs, rfl, q, r⟩ := r1; exact go "list" _ (.base (.lst q)) (kit_ty (by decide +kernel)) rfl
      | flst y => cases h
      | dk y z => cases h; obtain ⟨a, kvs, rfl, e, _⟩ := dkH r1; exact go "dict" _ (.base (.dK e)) (kit_ty (by decide +kernel)) rfl
      | dt y z => cases h
      | ins y z u => cases h
      | ob y => cases h
      | bor y => cases h
/-! methods of built-in things -/
theorem strsOf_ok : ∀ {l : List Tr} {xs : List V} {is : List Str}, strsOf l = some is → Rps K F θ l xs → xs = is.map V.str
  | [], _, _, h, .nil => by simp only [strsOf] at h; cases h; rfl
  | t :: l, _, _, h, .cons r1 r2 => by
    cases t with
    | str i =>
      simp only [strsOf] at h
      cases e : strsOf l with
      | none => rw [e] at h; cases h
      | some is' =>
        rw [e] at h
        cases h
        cases r1
        rw [List.map_cons, strsOf_ok e r2]
    | _ => simp only [strsOf] at h; cases h
theorem rps_strs : ∀ (ys : List Str), Rps K F θ (ys.map Tr.str) (ys.map V.str)
  | [] => .nil
  | y :: ys => .cons (.str y) (rps_strs ys)
def rMt (K : Mx) (x : Tr) (ts : List Tr) (t : Tr) : V → List V → Hp → VK → Prop := fun v vs H Q => ∃ F G θ s σ, Rel K F G θ s σ H ∧ RpH K F θ H x v ∧ RpHs K F θ H ts vs ∧ Fin K F G θ s σ t Q
def Mt.sid : Mt → Option String
  | .split => some "str.split" | .join => some "str.join" | .index => some "str.index" | .zfill => some "str.zfill"
  | .get => none
def Mt.nm : Mt → Str
  | .split => "split" | .join => "join" | .index => "index" | .zfill => "zfill" | .get => "get"
theorem mtT_str {cl : List Str} {X : Cx} {m : Mt} {x : Tr} {ts : List Tr} {t : Tr} {id : String} (hid : m.sid = some id) (h : mtT m x ts = some t) : (∃ z, x = .str z) ∧ MtR X id (rMt (MX cl X) x ts t) := by
  unfold mtT at h
  split at h <;> first | (cases h; done) | cases hid
  · split at h
    · rename_i hc
      cases h
      refine ⟨⟨_, rfl⟩, ?_⟩
      intro pins s0 σ0 H xv xs v us Q I rx rs ⟨F, G, θ, s, σ, R, r1, r2, k⟩
      cases strH r1
      cases r2 with
      | cons r2 r3 =>
        cases r3; cases strH r2
        exact mt_split pins s0 σ0 H _ _ _ _ Q I rx rs ⟨_, _, rfl, rfl, hc.1, hc.2, fun p np => k.lst R np (rps_strs _)⟩
    · cases h
  · unfold joinT at h
    split at h
    · rename_i ys h9
      split at h
      · rename_i hc
        cases h
        refine ⟨⟨_, rfl⟩, ?_⟩
        intro pins s0 σ0 H xv xs v us Q I rx rs ⟨F, G, θ, s, σ, R, r1, r2, k⟩
        cases strH r1
        cases r2 with
        | cons r2 r3 =>
          cases r3
          obtain ⟨a, zs, rfl, q, r⟩ := r2
          obtain rfl := strsOf_ok h9 r
          exact mt_join pins s0 σ0 H _ _ _ _ Q I rx rs ⟨_, a, ys, rfl, rfl, .inl (SqL.of q), hc, k.same R (.str _)⟩
      · cases h
    · cases h
  · unfold joinT at h
    split at h
    · rename_i ys h9
      split at h
      · rename_i hc
        cases h
        refine ⟨⟨_, rfl⟩, ?_⟩
        intro pins s0 σ0 H xv xs v us Q I rx rs ⟨F, G, θ, s, σ, R, r1, r2, k⟩
        cases strH r1
        cases r2 with
        | cons r2 r3 =>
          cases r3
          obtain ⟨a, zs, rfl, q, r, _⟩ := tupH r2 R.m.fle
          obtain rfl := strsOf_ok h9 r
          exact mt_join pins s0 σ0 H _ _ _ _ Q I rx rs ⟨_, a, ys, rfl, rfl, .inr q, hc, k.same R (.str _)⟩
      · cases h
    · cases h
  · split at h
    · rename_i i r9 h9
      cases h
      refine ⟨⟨_, rfl⟩, ?_⟩
      intro pins s0 σ0 H xv xs v us Q I rx rs ⟨F, G, θ, s, σ, R, r1, r2, k⟩
      cases strH r1
      cases r2 with
      | cons r2 r3 =>
        cases r3; cases strH r2
        exact mt_sindex pins s0 σ0 H _ _ _ _ Q I rx rs ⟨_, _, i, r9, rfl, rfl, h9, k.same R (.int _)⟩
    · cases h
  · split at h
    · rename_i hc
      cases h
      refine ⟨⟨_, rfl⟩, ?_⟩
      intro pins s0 σ0 H xv xs v us Q I rx rs ⟨F, G, θ, s, σ, R, r1, r2, k⟩
      cases strH r1
      cases r2 with
      | cons r2 r3 =>
        cases r3; cases intH r2
        exact mt_zfill pins s0 σ0 H _ _ _ _ Q I rx rs ⟨_, _, rfl, rfl, hc, k.same R (.str _)⟩
    · cases h
theorem isDd_of {d : Tr} {v : V} (hF : FLe F H) (h : (∃ ks l, d = .dk ks l) ∨ ∃ ks l, d = .dt ks l) (r : RpH K F θ H d v) : IsDd K.P K.w K v H := by
  rcases h with ⟨ks, l, rfl⟩ | ⟨ks, l, rfl⟩
  · obtain ⟨a, kvs, rfl, e, _⟩ := r
    exact ⟨a, rfl, .inl ⟨kvs, e⟩⟩
  · obtain ⟨a, kvs, rfl, e, _, _, hk⟩ := r
    exact ⟨a, rfl, .inr ⟨kvs, e, fun p hp => hF.tup (hk p hp)⟩⟩
theorem dget_is {d y : Tr} {o : Option Tr} (h : dgetT d y = some o) : (∃ ks l, d = .dk ks l) ∨ ∃ ks l, d = .dt ks l := by
  unfold dgetT at h
  split at h
  · exact .inl ⟨_, _, rfl⟩
  · exact .inr ⟨_, _, rfl⟩
  · cases h
theorem rp_flat {z : Tr} {v : V} (h : (flat z).isSome = true) (r : RpH K F θ H z v) : Rp K F θ z v := by
  cases z with
  | non => exact r
  | bl b => exact r
  | int i => exact r
  | str x => exact r
  | _ => cases h
theorem mtT_get {cl : List Str} {X : Cx} {x : Tr} {ts : List Tr} {t : Tr} (hu : X.A.units + 64 < cLine) (h : mtT .get x ts = some t) : ((∃ ks l, x = .dk ks l) ∨ ∃ ks l, x = .dt ks l) ∧ MtR X "dict.get" (rMt (MX cl X) x ts t) := by
  unfold mtT at h
  split at h <;> first | (cases h; done) | (contradiction) | skip
  · rename_i y hh
    obtain ⟨o, h9, rfl⟩ := map_some h
    refine ⟨dget_is h9, ?_⟩
    intro pins s0 σ0 H xv xs v us Q I rx rs ⟨F, G, θ, s, σ, R, r1, r2, k⟩
    cases r2 with
    | cons r2 r3 =>
      cases r3
      obtain ⟨a, r, rfl, g, h3, h4⟩ := dgetT_ok R.m.fle h9 r1 r2
      refine mt_get1 hu pins s0 σ0 H _ _ _ _ Q I rx rs ⟨a, _, r, rfl, rfl, g, ?_⟩
      cases o with
      | none => rw [h4 rfl]; exact k.same R .non
      | some u => obtain ⟨z, h5, h6⟩ := h3 u rfl; rw [h5]; exact k.same R h6
  · rename_i y z hh
    split at h
    · rename_i hz
      obtain ⟨o, h9, rfl⟩ := map_some h
      refine ⟨dget_is h9, ?_⟩
      intro pins s0 σ0 H xv xs v us Q I rx rs ⟨F, G, θ, s, σ, R, r1, r2, k⟩
      cases r2 with
      | cons r2 r3 =>
        cases r3 with
        | cons r3 r4 =>
          cases r4
          obtain ⟨a, r, rfl, g, h3, h4⟩ := dgetT_ok R.m.fle h9 r1 r2
          refine mt_get2 hu pins s0 σ0 H _ _ _ _ Q I rx rs ⟨a, _, _, r, rfl, rfl, g, ?_⟩
          cases o with
          | none =>
            rw [h4 rfl]
            have : Rp (MX cl X) F θ z _ := rp_flat hz r3
            exact k.same R this
          | some u => obtain ⟨z, h5, h6⟩ := h3 u rfl; rw [h5]; exact k.same R h6
    · cases h
end Ev
/-! The checker, the canonical readings, what stands around a call. -/
namespace Ev
open PySem PySem.Spec L2
variable {K : Mx} {F F' G H : Hp} {θ θ' : List Addr} {s : Sta} {σ : St}

/-! ### the checker: the given program's text against our own -/
structure Ds where
  fns : List (Nat × Str)
  mks : List (Nat × Str)
  gls : List (Nat × Str)
  blts : List Str
  pars : List (Nat × List Str)
  cl : List Str
  fl : List Str
  prms : List (Nat × (Nat × List Nat × List Str))
def isCall : Expr → Bool
  | .Call .. => true
  | _ => false
def isStar : Expr → Bool
  | .Starred .. => true
  | _ => false
def isSetE : Expr → Bool
  | .Set .. => true
  | _ => false
mutual
/-- a target's names lie among these -/
def tgIn (vs : List Nat) : Tg → Bool
  | .nm i => vs.contains i
  | .tp gs => tgsIn vs gs
def tgsIn (vs : List Nat) : List Tg → Bool
  | [] => true
  | g :: gs => tgIn vs g && tgsIn vs gs
end
def isSlice : Expr → Bool
  | .Slice .. => true
  | _ => false
def visB (sc : Scope) (x : Str) : Bool := match sc.names.lookup x with
  | some .local => true
  | some .cell => true
  | some .free => true
  | _ => false
def locB (sc : Scope) (x : Str) : Bool := match sc.names.lookup x with
  | some .local => true
  | some .cell => true
  | _ => false
def glB (sc : Scope) (x : Str) : Bool := match sc.names.lookup x with
  | some .globalImplicit => true
  | _ => false
def okN (x : Str) : Bool := !(x == ("__debug__" : Str)) && !(x == ("__classdict__" : Str))
mutual
def chkT (N : List Str) (sc : Scope) : Tg → Expr → Bool
  | .nm i, ex => match ex with
    | .Name x _ => decide (N[i]? = some x) && locB sc x
    | _ => false
  | .tp gs, ex => match ex with
    | .Tuple es _ _ => chkTs N sc gs es
    | _ => false
def chkTs (N : List Str) (sc : Scope) : List Tg → List Expr → Bool
  | [], es => match es with
    | [] => true
    | _ => false
  | g :: gs, es => match es with
    | e :: es => !isStar e && chkT N sc g e && chkTs N sc gs es
    | _ => false
end
def isTp : Tg → Bool
  | .tp _ => true
  | _ => false
def blB (D : Ds) (sc : Scope) (x y : Str) : Bool := decide (x = y) && glB sc x && decide (x ∈ D.blts)
mutual
def chk (D : Ds) (N : List Str) (sc : Scope) : Ex → Expr → Bool
  | .var i, ex => match ex with
    | .Name x _ => decide (N[i]? = some x) && visB sc x && okN x
    | _ => false
  | .mv i, ex => match ex with
    | .Name x _ => decide (N[i]? = some x) && visB sc x && okN x
    | _ => false
  | .gl k, ex => match ex with
    | .Name x _ => decide (D.gls.lookup k = some x) && glB sc x && okN x
    | _ => false
  | .int i, ex => match ex with
    | .Constant (.int j) _ _ => decide (i = j)
    | _ => false
  | .str z, ex => match ex with
    | .Constant (.str y) _ _ => decide (z = y)
    | _ => false
  | .bl b, ex => match ex with
    | .Constant (.bool c) _ _ => decide (b = c)
    | _ => false
  | .non, ex => match ex with
    | .Constant .none _ _ => true
    | _ => false
  | .nul, _ => false
  | .tup es, ex => match ex with
    | .Tuple xs _ _ => chks D N sc es xs
    | _ => false
  | .lst es, ex => match ex with
    | .List xs _ => chks D N sc es xs
    | _ => false
  | .shd es, ex => match ex with
    | .List xs _ => chks D N sc es xs
    | _ => false
  | .bin o a b, ex => match ex with
    | .BinOp x op y _ => decide (op = o.py) && chk D N sc a x && chk D N sc b y
    | _ => false
  | .neg a, ex => match ex with
    | .UnaryOp .USub x _ => chk D N sc a x
    | _ => false
  | .cmp o a b, ex => match ex with
    | .Compare x [op] [y] _ => decide (op = o.py) && chk D N sc a x && chk D N sc b y && !behindInMarks op y
    | _ => false
  | .chain o p a b c, ex => match ex with
    | .Compare x [op, op'] [y, z] _ => decide (op = o.py) && decide (op' = p.py) && chk D N sc a x && chk D N sc b y && chk D N sc c z && !behindInMarks op' z
    | _ => false
  | .and_ a b, ex => match ex with
    | .BoolOp .And (x :: y :: r) p => chk D N sc a x && (match r with
      | [] => chk D N sc b y
      | _ => chk D N sc b (.BoolOp .And (y :: r) p))
    | _ => false
  | .or_ a b, ex => match ex with
    | .BoolOp .Or (x :: y :: r) p => chk D N sc a x && (match r with
      | [] => chk D N sc b y
      | _ => chk D N sc b (.BoolOp .Or (y :: r) p))
    | _ => false
  | .not_ a, ex => match ex with
    | .UnaryOp .Not x _ => chk D N sc a x
    | _ => false
  | .ite c a b, ex => match ex with
    | .IfExp t x y _ => chk D N sc c t && chk D N sc a x && chk D N sc b y
    | _ => false
  | .idx a b, ex => match ex with
    | .Subscript x y _ => !isSlice y && chk D N sc a x && chk D N sc b y
    | _ => false
  | .sl a lo hi, ex => match ex with
    | .Subscript x (.Slice l h none _) _ => chk D N sc a x && (match l with
      | none => isNul lo
      | some l => !isNul lo && chk D N sc lo l) && (match h with
      | none => isNul hi
      | some h => !isNul hi && chk D N sc hi h)
    | _ => false
  | .rev a, ex => match ex with
    | .Subscript x (.Slice none none (some (.UnaryOp .USub (.Constant (.int 1) _ _) _)) _) _ => chk D N sc a x
    | _ => false
  | .call f es, ex => match ex with
    | .Call (.Name x _) xs [] _ => decide (D.fns.lookup f = some x) && glB sc x && okN x && chks D N sc es xs
    | _ => false
  | .bi b es, ex => match ex with
    | .Call (.Name x _) xs [] _ => blB D sc x b.nm && (match b with
      | .listRg => (match xs with
        | [.Call (.Name y _) ys [] _] => blB D sc y "range" && chks D N sc es ys && decide (ys.length = 1)
        | _ => false)
      | .isInt => (match xs with
        | [z, .Name y _] => chks D N sc es [z] && blB D sc y "int"
        | _ => false)
      | .isBool => (match xs with
        | [z, .Name y _] => chks D N sc es [z] && blB D sc y "bool"
        | _ => false)
      | .isStr => (match xs with
        | [z, .Name y _] => chks D N sc es [z] && blB D sc y "str"
        | _ => false)
      | .isTup => (match xs with
        | [z, .Name y _] => chks D N sc es [z] && blB D sc y "tuple"
        | _ => false)
      | _ => chks D N sc es xs)
    | _ => false
  | .pop i, ex => match ex with
    | .Call (.Attribute (.Name x _) m ap) [] [] p => decide (m = ("pop" : Str)) && decide (N[i]? = some x) && visB sc x && okN x && (ap.endLine == p.line)
    | _ => false
  | .comp k elt tg its cond own, ex => match ex with
    | .ListComp e' [⟨tg', iter, ifs, 0⟩] scope _ => !isSetE iter && tgIn own tg && blkC N sc scope (own.map fun i => (N.getD i "", i)) && chk D N scope elt e' && chkT N scope tg tg' && (match ifs with
      | [] => isNul cond
      | [c] => !isNul cond && chk D N scope cond c
      | _ => false) && (match k with
      | 0 => chks D N sc its [iter]
      | 1 => (match iter with
        | .Call (.Name y _) ys [] _ => blB D sc y "range" && chks D N sc its ys && decide (ys.length = 1)
        | _ => false)
      | 2 => (match iter with
        | .Call (.Name y _) ys [] _ => blB D sc y "range" && chks D N sc its ys && decide (ys.length = 2)
        | _ => false)
      | 3 => isTp tg && (match iter with
        | .Call (.Name y _) ys [] _ => blB D sc y "enumerate" && chks D N sc its ys && decide (ys.length = 1)
        | _ => false)
      | 4 => isTp tg && (match iter with
        | .Call (.Name y _) ys [] _ => blB D sc y "zip" && chks D N sc its ys && decide (ys.length = 2)
        | _ => false)
      | _ => false)
    | _ => false
  | .bad, _ => true
  | .orV a b, ex => match ex with
    | .BoolOp .Or (x :: y :: r) p => chk D N sc a x && (match r with
      | [] => chk D N sc b y
      | _ => chk D N sc b (.BoolOp .Or (y :: r) p))
    | _ => false
  | .fld a f, ex => match ex with
    | .Attribute x g _ => decide (f = g) && decide (f ∈ D.fl) && !isCall x && chk D N sc a x
    | _ => false
  | .isC c a, ex => match ex with
    | .Call (.Name y _) [z, .Name u _] [] _ => blB D sc y "isinstance" && !isStar z && chk D N sc a z && decide (u = c) && glB sc u && okN u && decide (c ∈ D.cl)
    | _ => false
  | .make f es, ex => match ex with
    | .Call (.Name x _) xs [] _ => decide (D.mks.lookup f = some x) && glB sc x && okN x && chks D N sc es xs
    | _ => false
  | .dsp es, ex => match ex with
    | .Dict ks vs _ => chkPs D N sc es ks vs && decide (ks.length ≤ 15)
    | _ => false
  | .meth m a es, ex => match ex with
    | .Call (.Attribute x nm ap) xs [] cp => decide (nm = m.nm) && !isCall x && (ap.endLine == cp.line) && chk D N sc a x && decide (xs.length < 10) && chks D N sc es xs
    | _ => false
  | .popAt i e, ex => match ex with
    | .Call (.Attribute (.Name x _) m ap) [z] [] p => decide (m = ("pop" : Str)) && decide (N[i]? = some x) && visB sc x && okN x && (ap.endLine == p.line) && !isStar z && chk D N sc e z
    | _ => false
  | .disp k bs es, ex => match k with
    | 0 => (match ex with
      | .Tuple xs _ _ => chkSt D N sc es bs xs
      | _ => false)
    | _ => (match ex with
      | .List xs _ => chkSt D N sc es bs xs
      | _ => false)
  | .callP f es ks ps, ex => match ex with
    | .Call (.Name x _) xs kws _ => decide (D.fns.lookup f = some x) && glB sc x && okN x && chks D N sc es xs && (match D.prms.lookup f with
      | some (n, qs, ns) => decide (n = es.length) && decide (qs = ps) && chkK D N sc ks ns kws
      | none => false)
    | _ => false
  | .callK f es ks, ex => match ex with
    | .Call (.Name x _) xs kws _ => decide (D.fns.lookup f = some x) && glB sc x && okN x && chks D N sc es xs && (match D.pars.lookup f with
      | some ps => chkK D N sc ks (ps.drop es.length) kws
      | none => false)
    | _ => false
def chkPs (D : Ds) (N : List Str) (sc : Scope) : List Ex → List (Option Expr) → List Expr → Bool
  | [], ks, vs => match ks, vs with
    | [], [] => true
    | _, _ => false
  | [_], _, _ => false
  | a :: b :: es, ks, vs => match ks, vs with
    | some k :: ks, v :: vs => chk D N sc a k && chk D N sc b v && chkPs D N sc es ks vs
    | _, _ => false
def chkSt (D : Ds) (N : List Str) (sc : Scope) : List Ex → List Bool → List Expr → Bool
  | [], _, xs => match xs with
    | [] => true
    | _ => false
  | e :: es, bs, xs => match xs with
    | x :: xs => (if bs.headD false then (match x with
      | .Starred y _ => chk D N sc e y
      | _ => false) else !isStar x && chk D N sc e x) && chkSt D N sc es bs.tail xs
    | _ => false
def chkK (D : Ds) (N : List Str) (sc : Scope) : List Ex → List Str → List Keyword → Bool
  | [], ps, kws => match ps with
    | [] => (match kws with
      | [] => true
      | _ => false)
    | _ => false
  | e :: es, ps, kws => match ps with
    | p :: ps => (match kws with
      | ⟨some nm, x, _⟩ :: kws => decide (nm = p) && chk D N sc e x && chkK D N sc es ps kws
      | _ => false)
    | _ => false
def chks (D : Ds) (N : List Str) (sc : Scope) : List Ex → List Expr → Bool
  | [], xs => match xs with
    | [] => true
    | _ => false
  | e :: es, xs => match xs with
    | x :: xs => !isStar x && chk D N sc e x && chks D N sc es xs
    | _ => false
end

/-! ### canonical readings -/
section
variable (gc : Nat → Option Tr) (cf : CF)
def RE (K : Mx) (e : Ex) : TE := fun σ H Q => ∃ F G θ s t s', Rel K F G θ s σ H ∧ evX gc cf e false s = .ok t s' ∧ ∀ v H' F' θ', Rel K F' G θ' s' σ H' → FLe F F' → θ <+: θ' → RpV K F' θ' σ t v → Q v H'
def RT (K : Mx) (e : Ex) : TT := fun σ H Q => ∃ F G θ s b s', Rel K F G θ s σ H ∧ evX gc cf e true s = .ok (.bl b) s' ∧ ∀ H' F' θ', Rel K F' G θ' s' σ H' → FLe F F' → θ <+: θ' → Q b H'
inductive RpVs (K : Mx) (F : Hp) (θ : List Addr) (σ : St) : List Tr → List V → Prop
  | nil : RpVs K F θ σ [] []
  | cons {t : Tr} {l : List Tr} {v : V} {vs : List V} : RpV K F θ σ t v → RpVs K F θ σ l vs → RpVs K F θ σ (t :: l) (v :: vs)
def RA (K : Mx) (es : List Ex) : TA := fun σ H Q => ∃ F G θ s ts s', Rel K F G θ s σ H ∧ evEs gc cf es s = .ok ts s' ∧ ∀ vs H' F' θ', Rel K F' G θ' s' σ H' → FLe F F' → θ <+: θ' → RpVs K F' θ' σ ts vs → Q vs H'
end
theorem RpVs.rps : ∀ {ts : List Tr} {vs : List V}, RpVs K F θ σ ts vs → ts.all Tr.pure = true → Rps K F θ ts vs
  | _, _, .nil, _ => .nil
  | _, _, .cons r s, h => by
    rw [List.all_cons, Bool.and_eq_true] at h
    exact .cons (r.rp h.1) (s.rps h.2)
/-- a call's promise by the evaluator -/
def SpE (K : Mx) (cf : CF) (f n : Nat) : Sp := fun vs H Q _ => vs.length = n ∧ ∃ F G θ ts m t m', RelM K F G θ m H ∧ Rps K F θ ts vs ∧ cf f ts m = some (t, m') ∧ ∀ v H' F' θ', RelM K F' G θ' m' H' → FLe F F' → θ <+: θ' → Rp K F' θ' t v → Q v H'

/-- an __init__'s promise: the new instance, no more the callers' -/
def SpI (K : Mx) (cf : CF) (f n : Nat) (c : Str) : Sp := fun vs H Q _ => vs.length = n ∧ ∃ F G θ ts m t m' x us C dx, vs = .ref x :: us ∧ c ∈ K.cl ∧ K.mg c = some (.ref C) ∧ H x = some (.ins C dx []) ∧ F x = none ∧ G x = none ∧ x ∉ θ ∧ RelM K F G θ m H ∧ Rps K F θ ts us ∧ cf f ts m = some (t, m') ∧
  ∀ H' F' θ', RelM K F' G θ' m' H' → FLe F F' → θ <+: θ' → Rp K F' θ' t (.ref x) → Q .non H'
def KB (K : PySem.W.Frag) (fd : FuncData) (ps : List Str) : Prop := ∀ (s : Shared) (us ws : List Value), K.In s.heap → (us ++ ws).length = ps.length → BindsTo s fd ⟨us, (ps.drop us.length).zip ws⟩ (ps.zip (us ++ ws))
/-- the same, the names in another sequence -/
def KP (K : PySem.W.Frag) (fd : FuncData) (ps : List Str) (n : Nat) (qs : List Nat) (ns : List Str) : Prop := ∀ (s : Shared) (us ws : List Value), K.In s.heap → us.length = n → ws.length = ns.length → BindsTo s fd ⟨us, ns.zip ws⟩ (ps.zip (us ++ pick qs ws))
theorem KB.binds {K : PySem.W.Frag} {fd : FuncData} {ps : List Str} (h : KB K fd ps) : Binds K fd ps [] := fun s us hk hl => by
  have := h s us [] hk hl
  rw [List.zip_nil_right] at this
  exact this
/-- what is known of a class of our own -/
structure ClsF (K : PySem.W.Frag) (fl : List Str) (C : Addr) : Prop where
  cl : Cls K C
  na : ∀ f ∈ fl, NoAttr K C f
  kit : ∀ T ∈ (["NoneType", "bool", "int", "str", "list", "tuple", "dict"] : List String), PySem.W.kitOne K (.type T) (.ref C) = some false
  ha : PySem.W.findIn K (.ref C) "__class__" = some (some (.builtin "object.__class__"))
  hn : PySem.W.specialIn K (.builtin "object.__class__") "__get__" = some (some (.builtin "getset_descriptor.__get__"))
  htk : PySem.W.takesIn K (.builtin "object.__class__") = some true
  hm : PySem.W.mroIn K C (.type "object") = some true
structure Cxt (D : Ds) (gc : Nat → Option Tr) (cf : CF) (X : Cx) (sc : Scope) : Prop where
  nd : X.N.Nodup
  calm : X.calm = true
  gd : X.A.guards = some []
  xe : X.xe = fun _ _ => False
  vis : ∀ x, visB sc x = true → Vis X.env.scope x
  loc : ∀ x, locB sc x = true → Loc X.env.scope x ∧ (X.fn x = true ∨ X.env.scope.names.lookup x = some .local)
  glo : ∀ x, glB sc x = true → Gl X x
  blk : ∀ scope own, blkC X.N sc scope own = true → BlkOk X.N X.env.scope scope own
  gl : ∀ (k : Nat) t x, gc k = some t → D.gls.lookup k = some x → ∃ v u, X.mg x = some u ∧ RelV v u ∧ Rp (MX D.cl X) (fun _ => none) [] t v
  cls : ∀ c ∈ D.cl, ∃ C, X.mg c = some (.ref C) ∧ ClsF X.K D.fl C
  kit2 : ∀ c ∈ D.cl, ∀ c' ∈ D.cl, ∀ C C', X.mg c = some (.ref C) → X.mg c' = some (.ref C') → PySem.W.kitOne X.K (.ref C') (.ref C) = some (decide (c' = c))
  mkF : ∀ (f : Nat) x, D.mks.lookup f = some x → ∀ ts m r, cf f ts m = some r → ∃ (C fa : Addr) (fd : FuncData) (ps : List Str) (k : Nat), x ∈ D.cl ∧ X.mg x = some (.ref C) ∧ Mk X.K C fa ∧ KB X.K fd ps ∧ Room (k + 1) X.A ∧
    FnG X.prog X.w X.K X.mg X.base k fa fd ps (SpI (MX D.cl X) cf f ps.length x) ∧ ts.length + 1 = ps.length
  blt : ∀ x ∈ D.blts, X.mg x = none
  un : X.A.units + 200 < cLine
  fn : ∀ (f : Nat) x, D.fns.lookup f = some x → ∀ ts m r, cf f ts m = some r → ∃ (fa : Addr) (fd : FuncData) (ps : List Str) (k : Nat), D.pars.lookup f = some ps ∧ X.mg x = some (.ref fa) ∧ PySem.W.keepIn X.K (.ref fa) = true ∧ KB X.K fd ps ∧ Room k X.A ∧
    FnG X.prog X.w X.K X.mg X.base k fa fd ps (SpE (MX D.cl X) cf f ps.length) ∧ ts.length = ps.length
  fnP : ∀ (f : Nat) x n qs ns, D.fns.lookup f = some x → D.prms.lookup f = some (n, qs, ns) → ∀ ts m r, cf f ts m = some r → ∃ (fa : Addr) (fd : FuncData) (ps : List Str) (k : Nat), D.pars.lookup f = some ps ∧ X.mg x = some (.ref fa) ∧ PySem.W.keepIn X.K (.ref fa) = true ∧ KP X.K fd ps n qs ns ∧ Room k X.A ∧
    FnG X.prog X.w X.K X.mg X.base k fa fd ps (SpE (MX D.cl X) cf f ps.length) ∧ ts.length = ps.length

/-! ### out and back: around a call, a block -/
open Classical in
/-- what a callee may not touch -/
noncomputable def ownG (s : Sta) (σ : St) (G H : Hp) : Hp := fun a => if ∃ (i : Nat) (l : Ob), s.env[i]? = some (Slot.own l) ∧ σ[i]? = some (some (V.ref a)) then H a else G a
theorem ownG_of {a : Addr} {i : Nat} {l : Ob} (h : s.env[i]? = some (.own l)) (h' : σ[i]? = some (some (V.ref a))) : ownG s σ G H a = H a := by
  unfold ownG
  rw [if_pos ⟨i, l, h, h'⟩]
theorem ownG_not {a : Addr} (h : ¬ ∃ (i : Nat) (l : Ob), s.env[i]? = some (Slot.own l) ∧ σ[i]? = some (some (V.ref a))) : ownG s σ G H a = G a := by
  unfold ownG
  rw [if_neg h]
theorem Rel.gG (R : Rel K F G θ s σ H) : FLe G (ownG s σ G H) := fun a o e => by
  by_cases h : ∃ (i : Nat) (l : Ob), s.env[i]? = some (Slot.own l) ∧ σ[i]? = some (some (V.ref a))
  · obtain ⟨i, l, h1, h2⟩ := h
    rw [ownG_of h1 h2]
    exact R.m.gle a o e
  · rw [ownG_not h]
    exact e
theorem Rel.ownAt (R : Rel K F G θ s σ H) {a : Addr} {i : Nat} {l : Ob} (h : s.env[i]? = some (.own l)) (h' : σ[i]? = some (some (V.ref a))) : ∃ o, H a = some o ∧ F a = none ∧ G a = none ∧ a ∉ θ ∧ RpB K F θ a l o := by
  obtain ⟨b, xs, e, q⟩ := R.slot i _ h
  rw [h'] at e
  cases e
  exact ⟨xs, q⟩
theorem Rel.out (R : Rel K F G θ s σ H) : RelM K F (ownG s σ G H) θ s.mem H := by
  refine ⟨R.m.fle, fun a o e => ?_, fun a o e => ?_, R.m.len, R.m.nd, fun a o e => ?_, R.m.al, fun n o e hg => ?_⟩
  · by_cases h : ∃ (i : Nat) (l : Ob), s.env[i]? = some (Slot.own l) ∧ σ[i]? = some (some (V.ref a))
    · obtain ⟨i, l, h1, h2⟩ := h
      rw [ownG_of h1 h2] at e
      exact e
    · rw [ownG_not h] at e
      exact R.m.gle a o e
  · by_cases h : ∃ (i : Nat) (l : Ob), s.env[i]? = some (Slot.own l) ∧ σ[i]? = some (some (V.ref a))
    · obtain ⟨i, l, h1, h2⟩ := h
      obtain ⟨xs, _, f, _⟩ := R.ownAt h1 h2
      exact f
    · rw [ownG_not h] at e
      exact R.m.fg a o e
  · by_cases h : ∃ (i : Nat) (l : Ob), s.env[i]? = some (Slot.own l) ∧ σ[i]? = some (some (V.ref a))
    · obtain ⟨i, l, h1, h2⟩ := h
      obtain ⟨xs, _, _, _, f, _⟩ := R.ownAt h1 h2
      exact f
    · rw [ownG_not h] at e
      exact R.m.gt a o e
  · obtain ⟨a, h1, h2, h3, h4⟩ := R.m.ob n o e hg
    refine ⟨a, h1, h2, ?_, h4⟩
    have : ¬ ∃ (i : Nat) (l : Ob), s.env[i]? = some (Slot.own l) ∧ σ[i]? = some (some (V.ref a)) := by
      rintro ⟨i, l, q1, q2⟩
      obtain ⟨xs, _, _, _, f, _⟩ := R.ownAt q1 q2
      exact f (List.mem_of_getElem? h1)
    rw [ownG_not this]
    exact h3
theorem Rel.back (R : Rel K F G θ s σ H) {m' : List Ob} {H' : Hp} (M : RelM K F' (ownG s σ G H) θ' m' H') (hF : FLe F F') (hθ : θ <+: θ') : Rel K F' G θ' ⟨s.env, m'⟩ σ H' := by
  have gG := R.gG
  have dom : ∀ a, F' a = none ∨ ownG s σ G H a = none := fun a => by
    cases e : ownG s σ G H a with
    | none => exact .inr rfl
    | some o => exact .inl (M.fg a o e)
  have thG : ∀ a o, ownG s σ G H a = some o → a ∉ θ' := M.gt
  refine ⟨⟨M.fle, gG.trans M.gle, fun a o e => M.fg a o (gG a o e), M.len, M.nd, fun a o e => M.gt a o (gG a o e), M.al, fun n o e hg => ?_⟩, R.len, fun i x e => ?_, R.dis⟩
  · obtain ⟨a, h1, h2, h3, h4⟩ := M.ob n o e hg
    exact ⟨a, h1, h2, gG.none h3, h4⟩
  · have r := R.slot i x e
    cases x with
    | none => exact r
    | val t => obtain ⟨y, e1, q⟩ := r; exact ⟨y, e1, q.mono hF hθ⟩
    | own l =>
      obtain ⟨a, xs, e1, h, f, g, t, q⟩ := r
      have eo : ownG s σ G H a = some xs := (ownG_of (s := s) e e1).trans h
      exact ⟨a, xs, e1, M.gle a _ eo, M.fg a _ eo, g, thG a _ eo, q.mono hF hθ⟩
end Ev
/-! Soundness of expressions, part 1: the parts. -/
namespace Ev
open PySem PySem.Spec L2
variable {K : Mx} {F F' G H : Hp} {θ θ' : List Addr} {s : Sta} {σ : St}

theorem and2 {a b : Bool} (h : (a && b) = true) : a = true ∧ b = true := by simpa using h
theorem visB_ok {sc : Scope} {x : Str} (h : visB sc x = true) : Vis sc x := by
  unfold visB at h
  split at h
  · exact .inl (by assumption)
  · exact .inr (.inl (by assumption))
  · exact .inr (.inr (by assumption))
  · cases h
theorem locB_ok {sc : Scope} {x : Str} (h : locB sc x = true) : Loc sc x := by
  unfold locB at h
  split at h
  · exact .inl (by assumption)
  · exact .inr (by assumption)
  · cases h
theorem glB_ok {X : Cx} {x : Str} (h : glB X.env.scope x = true) : Gl X x := by
  unfold glB at h
  split at h
  · assumption
  · cases h
theorem okN_ok {x : Str} (h : okN x = true) : (x == ("__debug__" : Str)) = false ∧ (x == ("__classdict__" : Str)) = false := by
  unfold okN at h
  obtain ⟨h1, h2⟩ := and2 h
  exact ⟨by simpa using h1, by simpa using h2⟩
theorem star_cons {e : Expr} {es : List Expr} {env : Env} (h : isStar e = false) : starEach (e :: es) env = (false, eval e env) :: starEach es env := by
  cases e <;> first | rfl | (exact nomatch h)
theorem chks_plain {D : Ds} {N : List Str} {sc : Scope} {env : Env} {pos : Pos} : ∀ {es : List Ex} {xs : List Expr}, chks D N sc es xs = true → (backTo pos (starEach xs env)).any (·.1) = false
  | [], xs, h => by
    cases xs with
    | nil => rfl
    | cons _ _ => exact nomatch h
  | e :: es, xs, h => by
    cases xs with
    | nil => exact nomatch h
    | cons x xs =>
      simp only [chks] at h
      obtain ⟨h1, h2⟩ := and2 h
      obtain ⟨h1, h3⟩ := and2 h1
      rw [star_cons (by simpa using h1)]
      have := chks_plain (env := env) (pos := pos) h2
      show (false || (backTo pos (starEach xs env)).any (·.1)) = false
      rw [this]
      rfl
/-! ### indices, slices -/
theorem atI_rps {l : List Tr} {xs : List V} {i : Int} {t : Tr} (r : Rps K F θ l xs) (h : atI l i = some t) : ∃ v, atI xs i = some v ∧ Rp K F θ t v := by
  unfold atI at h ⊢
  rw [r.length]
  cases e : ixN l.length i with
  | none => rw [e] at h; cases h
  | some j =>
    rw [e] at h
    exact r.get h
/-- an index's reading -/
theorem idxT_ok {x y t : Tr} {v w : V} {Q : VK} (R : Rel K F G θ s σ H) (h : idxT x y = some t) (r1 : RpH K F θ H x v) (r2 : RpH K F θ H y w) (k : Fin K F G θ s σ t Q) : rIx K v w H Q ∨ ∃ a z, v = .ref a ∧ DG K.P K.w K H a w (some z) ∧ Q z H := by
  have dct : ∀ {d : Tr}, (dgetT d y).bind id = some t → RpH K F θ H d v → ∃ a z, v = .ref a ∧ DG K.P K.w K H a w (some z) ∧ Q z H := by
    intro d hh rr
    cases e : dgetT d y with
    | none => rw [e] at hh; cases hh
    | some o =>
      rw [e] at hh
      have ho : o = some t := hh
      subst ho
      obtain ⟨a, r, h1, h2, h3, _⟩ := dgetT_ok R.m.fle e rr r2
      obtain ⟨z, h5, h6⟩ := h3 t rfl
      subst h5
      exact ⟨a, z, h1, h2, k.same R h6⟩
  unfold idxT at h
  split at h
  · obtain ⟨a, xs, rfl, q, r, _⟩ := tupH r1 R.m.fle
    cases intH r2
    obtain ⟨z, e, rz⟩ := atI_rps r h
    exact .inl <| .inr (.inl ⟨a, xs, _, z, rfl, rfl, q, e, k.same R rz⟩)
  · obtain ⟨a, xs, rfl, q, r⟩ := r1
    cases intH r2
    obtain ⟨z, e, rz⟩ := atI_rps r h
    exact .inl <| .inl ⟨a, xs, _, z, rfl, rfl, SqL.of q, e, k.same R rz⟩
  · obtain ⟨a, xs, rfl, q, r⟩ := flstH r1 R.m.fle
    cases intH r2
    obtain ⟨z, e, rz⟩ := atI_rps r h
    exact .inl <| .inl ⟨a, xs, _, z, rfl, rfl, q, e, k.same R rz⟩
  · split at h
    · obtain ⟨c, h9, rfl⟩ := map_some h
      cases strH r1
      cases intH r2
      exact .inl <| .inr (.inr ⟨_, _, c, rfl, rfl, by assumption, h9, k.same R (.str _)⟩)
    · cases h
  · exact .inr (dct h r1)
  · exact .inr (dct h r1)
  · cases h
theorem cut_rps {l : List Tr} {xs : List V} {lo hi : Option Int} (r : Rps K F θ l xs) : Rps K F θ (cutT l lo hi) (cutV xs lo hi) := by
  unfold cutT cutV
  rw [r.length]
  exact (r.drop _).take _
theorem slT_ok {x t : Tr} {v : V} {lo hi : Option Int} {Q : VK} (R : Rel K F G θ s σ H) (h : slT x lo hi = some t) (r1 : RpH K F θ H x v) (k : Fin K F G θ s σ t Q) : rSlA K v lo hi H Q ∨ rSlL K v lo hi H Q ∨ rSlS v lo hi H Q := by
  unfold slT at h
  split at h
  · cases h
    obtain ⟨a, xs, rfl, q, r, f⟩ := tupH r1 R.m.fle
    refine .inl ⟨a, xs, rfl, q, fun e => ?_, fun _ p np => k.tup R np (cut_rps r)⟩
    have : cutV xs lo hi = xs := by
      unfold cutV
      rw [e.1, e.2, List.drop_zero, Nat.sub_zero]
      exact List.take_of_length_le (Nat.le_refl _)
    refine k.same R (.tup f ?_)
    have q2 := cut_rps (lo := lo) (hi := hi) r
    rw [this] at q2
    exact q2
  · cases h
    obtain ⟨a, xs, rfl, q, r⟩ := r1
    exact .inr (.inl ⟨a, xs, rfl, SqL.of q, fun p np => k.lst R np (cut_rps r)⟩)
  · cases h
    obtain ⟨a, xs, rfl, q, r⟩ := flstH r1 R.m.fle
    exact .inr (.inl ⟨a, xs, rfl, q, fun p np => k.lst R np (cut_rps r)⟩)
  · split at h
    · cases h
      cases strH r1
      exact .inr (.inr ⟨_, rfl, by assumption, k.same R (.str _)⟩)
    · cases h
  · cases h
theorem slT_nb {x t : Tr} {lo hi : Option Int} (h : slT x lo hi = some t) : x.pure = true := by cases x <;> first | rfl | (exact nomatch h)

/-! ### truth -/
theorem truth_ok {x : Tr} {b : Bool} {v : V} (hF : FLe F H) (h : truth x = some b) (r : RpH K F θ H x v) : TruV K v H b := by
  have emp : ∀ {l : List Tr} {xs : List V}, Rps K F θ l xs → (!xs.isEmpty) = !l.isEmpty := by
    intro l xs r
    cases r <;> rfl
  unfold truth at h
  split at h
  · cases h; cases nonH r; rfl
  · cases h; cases blH r; rfl
  · cases h; cases intH r; rfl
  · cases h
    obtain ⟨a, xs, rfl, q, r, _⟩ := tupH r hF
    exact .inr (.inl ⟨xs, q, (emp r).symm⟩)
  · cases h
    obtain ⟨a, xs, rfl, q, r⟩ := r
    exact .inl ⟨xs, SqL.of q, (emp r).symm⟩
  · split at h
    · cases h
      cases strH r
      exact ⟨by assumption, rfl⟩
    · cases h
  · cases h
theorem truth_nb {x : Tr} {b : Bool} (h : truth x = some b) : x.pure = true := by cases x <;> first | rfl | (exact nomatch h)
theorem idxT_nb {x y t : Tr} (h : idxT x y = some t) : x.pure = true := by cases x <;> first | rfl | (exact nomatch h)
/-- an operand that is something pure -/
theorem Rel.read (R : Rel K F G θ s σ H) {t : Tr} {v : V} (r : RpV K F θ σ t v) (p : (s.deref t).pure = true) : RpH K F θ H (s.deref t) v := by
  rcases R.deref r with ⟨i, e⟩ | h
  · rw [e] at p
    cases p
  · exact h
theorem RpVs.mono (hF : FLe F F') (hθ : θ <+: θ') : ∀ {ts : List Tr} {vs : List V}, RpVs K F θ σ ts vs → RpVs K F' θ' σ ts vs
  | _, _, .nil => .nil
  | _, _, .cons r s => .cons (r.mono hF hθ) (s.mono hF hθ)
theorem Rel.reads (R : Rel K F G θ s σ H) : ∀ {ts : List Tr} {vs : List V}, RpVs K F θ σ ts vs → (ts.map s.deref).all Tr.pure = true → RpHs K F θ H (ts.map s.deref) vs
  | _, _, .nil, _ => .nil
  | _, _, .cons r q, h => by
    rw [List.map_cons, List.all_cons, Bool.and_eq_true] at h
    exact .cons (R.read r h.1) (R.reads q h.2)
/-! ### the context -/
section
variable {D : Ds} {gc : Nat → Option Tr} {cf : CF} {X : Cx} {sc : Scope}
theorem Cxt.u64 (C : Cxt D gc cf X sc) : X.A.units + 64 < cLine := by have := C.un; omega
/-- a test that is its value's truth -/
theorem pt_of {e : Ex} {ex : Expr} (h : PE X ex (RE gc cf (MX D.cl X) e)) (he : ∀ whole, isTrue ex X.env whole = (do let v ← whole; standAt ex.pos; holding [v] (truthy v))) (ev : ∀ s, evX gc cf e true s = fin true (evX gc cf e false s)) :
    PT X ex (RT gc cf (MX D.cl X) e) := by
  refine ⟨fun pins s0 σ H Q I hw => ?_⟩
  obtain ⟨F, G, θ, s, b, s', R, e1, k⟩ := hw
  rw [ev] at e1
  obtain ⟨x, s1, e2, e3⟩ := Rs.bind_eq e1
  obtain ⟨e4, rfl⟩ := Rs.of_eq e3
  obtain ⟨b', e5, e6⟩ := map_some e4
  obtain rfl : b' = b := by injection e6
  refine (pt_truth h he).run pins s0 σ H Q I ⟨F, G, θ, s, x, s1, R, e2, fun v H' F' θ' R' l p r => ?_⟩
  exact ⟨b', truth_ok R'.m.fle e5 (R'.read r (truth_nb e5)), k H' F' θ' R' l p⟩
end
end Ev
/-! Soundness: states that change; targets; what is walked. -/
namespace Ev
open PySem PySem.Spec L2
variable {K : Mx} {F F' G H : Hp} {θ θ' : List Addr} {s : Sta} {σ : St}

/-! ### states that change -/
/-- a thing of nobody's becomes one that stays -/
theorem Rel.fix {D : Addr} {o : HO} (R : Rel K F G θ s σ H) (h : H D = some o) (f : F D = none) (g : G D = none) (t : D ∉ θ) (ow : ∀ (i : Nat) (l : Ob), s.env[i]? = some (Slot.own l) → σ[i]? ≠ some (some (V.ref D))) :
    Rel K (upd F D o) G θ s σ H := by
  have le : FLe F (upd F D o) := FLe.upd1 f
  refine ⟨⟨fun a u e => ?_, R.m.gle, fun a u e => ?_, R.m.len, R.m.nd, R.m.gt, R.m.al, fun n u e hu => ?_⟩, R.len, fun i x e => ?_, R.dis⟩
  · by_cases z : a = D
    · subst z; rw [upd_same] at e; cases e; exact h
    · rw [upd_ne z] at e; exact R.m.fle a u e
  · rw [upd_ne (ne_of_none e g)]
    exact R.m.fg a u e
  · obtain ⟨a, h1, h2, h3, h4⟩ := R.m.ob n u e hu
    have ne : a ≠ D := fun z => t (z ▸ List.mem_of_getElem? h1)
    refine ⟨a, h1, by rw [upd_ne ne]; exact h2, h3, ?_⟩
    obtain ⟨xs, q, r⟩ := h4
    exact ⟨xs, q, r.mono le (List.prefix_refl _)⟩
  · have r := R.slot i x e
    cases x with
    | none => exact r
    | val t => obtain ⟨y, e1, q⟩ := r; exact ⟨y, e1, q.mono le (List.prefix_refl _)⟩
    | own l =>
      obtain ⟨a, xs, e1, h1, f1, g1, t1, q⟩ := r
      have ne : a ≠ D := fun z => ow i l e (z ▸ e1)
      exact ⟨a, xs, e1, h1, by rw [upd_ne ne]; exact f1, g1, t1, q.mono le (List.prefix_refl _)⟩
theorem get_set {α : Type} {l : List α} {i j : Nat} {x y : α} (h : (l.set i x)[j]? = some y) : (i = j ∧ y = x ∧ i < l.length) ∨ (i ≠ j ∧ l[j]? = some y) := by
  by_cases e : i = j
  · subst e
    have hi : i < l.length := by have := (List.getElem?_eq_some_iff.mp h).1; simpa using this
    rw [List.getElem?_set_self hi] at h
    exact .inl ⟨rfl, (Option.some.inj h).symm, hi⟩
  · rw [List.getElem?_set_ne e] at h
    exact .inr ⟨e, h⟩
/-- a slot becomes a value -/
theorem Rel.store {i : Nat} {t : Tr} {v : V} (R : Rel K F G θ s σ H) (r : Rp K F θ t v) (hi : i < s.env.length) : Rel K F G θ ⟨s.env.set i (.val t), s.mem⟩ (σ.set i (some v)) H := by
  have hσ : i < σ.length := by rw [← R.len]; exact hi
  refine ⟨R.m, by simpa using R.len, fun j x e => ?_, fun a b l l' c e1 e2 e3 e4 => ?_⟩
  · rcases get_set e with ⟨rfl, rfl, _⟩ | ⟨ne, e⟩
    · exact ⟨v, by rw [List.getElem?_set_self hσ], r⟩
    · rw [List.getElem?_set_ne ne]
      exact R.slot j x e
  · rcases get_set e1 with ⟨_, z, _⟩ | ⟨n1, e1⟩
    · cases z
    · rcases get_set e2 with ⟨_, z, _⟩ | ⟨n2, e2⟩
      · cases z
      · rw [List.getElem?_set_ne n1] at e3
        rw [List.getElem?_set_ne n2] at e4
        exact R.dis a b l l' c e1 e2 e3 e4
/-- a slot becomes an own list -/
theorem Rel.storeOwn {i : Nat} {l : Ob} {a : Addr} {xs : HO} (R : Rel K F G θ s σ H) (r : RpB K F θ a l xs) (h : H a = some xs) (f : F a = none) (g : G a = none) (t : a ∉ θ)
    (ow : ∀ (j : Nat) (l : Ob), j ≠ i → s.env[j]? = some (Slot.own l) → σ[j]? ≠ some (some (V.ref a))) (hi : i < s.env.length) : Rel K F G θ ⟨s.env.set i (.own l), s.mem⟩ (σ.set i (some (.ref a))) H := by
  have hσ : i < σ.length := by rw [← R.len]; exact hi
  refine ⟨R.m, by simpa using R.len, fun j x e => ?_, fun p q l l' c e1 e2 e3 e4 => ?_⟩
  · rcases get_set e with ⟨rfl, rfl, _⟩ | ⟨ne, e⟩
    · exact ⟨a, xs, by rw [List.getElem?_set_self hσ], h, f, g, t, r⟩
    · rw [List.getElem?_set_ne ne]
      exact R.slot j x e
  · rcases get_set e1 with ⟨rfl, _, _⟩ | ⟨n1, e1⟩
    · rcases get_set e2 with ⟨rfl, _, _⟩ | ⟨n2, e2⟩
      · rfl
      · rw [List.getElem?_set_self hσ] at e3
        rw [List.getElem?_set_ne n2] at e4
        cases e3
        exact absurd e4 (ow q l' (Ne.symm n2) e2)
    · rcases get_set e2 with ⟨rfl, _, _⟩ | ⟨n2, e2⟩
      · rw [List.getElem?_set_self hσ] at e4
        rw [List.getElem?_set_ne n1] at e3
        cases e4
        exact absurd e3 (ow p l (Ne.symm n1) e1)
      · rw [List.getElem?_set_ne n1] at e3
        rw [List.getElem?_set_ne n2] at e4
        exact R.dis p q l l' c e1 e2 e3 e4
/-- an own list changes -/
theorem Rel.ownUpd {i : Nat} {l l' : Ob} {a : Addr} {ys : HO} (R : Rel K F G θ s σ H) (e : s.env[i]? = some (.own l)) (ea : σ[i]? = some (some (.ref a))) (r : RpB K F θ a l' ys) : Rel K F G θ ⟨s.env.set i (.own l'), s.mem⟩ σ (upd H a ys) := by
  obtain ⟨xs, h, f, g, t, _⟩ := R.ownAt e ea
  have hi : i < s.env.length := (List.getElem?_eq_some_iff.mp e).1
  refine ⟨⟨fun b u q => ?_, fun b u q => ?_, R.m.fg, R.m.len, R.m.nd, R.m.gt, fun b hb => ?_, fun n u q hu => ?_⟩, by simpa using R.len, fun j x q => ?_, fun p q l1 l2 c e1 e2 e3 e4 => ?_⟩
  · rw [upd_ne (ne_of_none q f)]; exact R.m.fle b u q
  · rw [upd_ne (ne_of_none q g)]; exact R.m.gle b u q
  · obtain ⟨o, ho⟩ := R.m.al b hb
    exact ⟨o, by rw [upd_ne (fun z : b = a => t (by rw [← z]; exact hb))]; exact ho⟩
  · obtain ⟨b, h1, h2, h3, h4⟩ := R.m.ob n u q hu
    have ne : b ≠ a := fun z => t (z ▸ List.mem_of_getElem? h1)
    exact ⟨b, h1, h2, h3, by rw [upd_ne ne]; exact h4⟩
  · rcases get_set q with ⟨rfl, rfl, _⟩ | ⟨ne, q⟩
    · exact ⟨a, ys, ea, upd_same, f, g, t, r⟩
    · have rr := R.slot j x q
      cases x with
      | none => exact rr
      | val t => exact rr
      | own m =>
        obtain ⟨b, zs, e1, h1, f1, g1, t1, q1⟩ := rr
        have nb : b ≠ a := fun z => ne (R.dis i j l m a e q ea (z ▸ e1))
        exact ⟨b, zs, e1, by rw [upd_ne nb]; exact h1, f1, g1, t1, q1⟩
  · have g1 : ∃ m, s.env[p]? = some (.own m) := by
      rcases get_set e1 with ⟨rfl, _, _⟩ | ⟨_, z⟩
      · exact ⟨_, e⟩
      · exact ⟨_, z⟩
    have g2 : ∃ m, s.env[q]? = some (.own m) := by
      rcases get_set e2 with ⟨rfl, _, _⟩ | ⟨_, z⟩
      · exact ⟨_, e⟩
      · exact ⟨_, z⟩
    obtain ⟨m1, z1⟩ := g1
    obtain ⟨m2, z2⟩ := g2
    exact R.dis p q m1 m2 c z1 z2 e3 e4
/-- an own list becomes a value -/
theorem Rel.freeze {i : Nat} {l : Ob} {a : Addr} {xs : HO} (R : Rel K F G θ s σ H) (e : s.env[i]? = some (.own l)) (ea : σ[i]? = some (some (.ref a))) (h : H a = some xs) (r : RpB K F θ a l xs) :
    Rel K (upd F a xs) G θ ⟨s.env.set i (.val l.tr), s.mem⟩ σ H := by
  obtain ⟨_, _, f, g, t, _⟩ := R.ownAt e ea
  have R1 : Rel K F G θ ⟨s.env.set i .none, s.mem⟩ σ H := by
    refine ⟨R.m, by simpa using R.len, fun j x q => ?_, fun p q l1 l2 c e1 e2 e3 e4 => ?_⟩
    · rcases get_set q with ⟨rfl, rfl, _⟩ | ⟨ne, q⟩
      · exact trivial
      · exact R.slot j x q
    · rcases get_set e1 with ⟨_, z, _⟩ | ⟨n1, e1⟩
      · cases z
      · rcases get_set e2 with ⟨_, z, _⟩ | ⟨n2, e2⟩
        · cases z
        · exact R.dis p q l1 l2 c e1 e2 e3 e4
  have R2 := R1.fix h f g t fun j m q z => by
    rcases get_set q with ⟨_, w, _⟩ | ⟨ne, q⟩
    · cases w
    · exact ne (R.dis i j l m a e q ea z)
  refine ⟨R2.m, by simpa using R.len, fun j x q => ?_, fun p q l1 l2 c e1 e2 e3 e4 => ?_⟩
  · rcases get_set q with ⟨rfl, rfl, hi⟩ | ⟨ne, q⟩
    · exact ⟨_, ea, (r.mono (FLe.upd1 f) (List.prefix_refl _)).rp upd_same⟩
    · exact R2.slot j x (by show (s.env.set i .none)[j]? = _; rw [List.getElem?_set_ne ne]; exact q)
  · rcases get_set e1 with ⟨_, z, _⟩ | ⟨n1, e1⟩
    · cases z
    · rcases get_set e2 with ⟨_, z, _⟩ | ⟨n2, e2⟩
      · cases z
      · exact R.dis p q l1 l2 c e1 e2 e3 e4
/-- a new shared object -/
theorem Rel.share {p : Addr} {l : Ob} {xs : HO} (R : Rel K F G θ s σ H) (n : H p = none) (r : RpB K F θ p l xs) : Rel K F G (θ ++ [p]) ⟨s.env, s.mem ++ [l]⟩ σ (upd H p xs) := by
  have J := R.junk (o := xs) n
  have np : p ∉ θ := R.m.noTh n
  have pre : θ <+: θ ++ [p] := List.prefix_append _ _
  refine ⟨⟨J.m.fle, J.m.gle, J.m.fg, by rw [List.length_append, List.length_append, R.m.len]; rfl, ?_, fun a o e hm => ?_, fun a hm => ?_, fun k o e hg => ?_⟩, R.len, fun i x e => ?_, R.dis⟩
  · rw [List.nodup_append]
    exact ⟨R.m.nd, by simp, fun a ha b hb => by simp at hb; subst hb; exact fun z => np (z ▸ ha)⟩
  · rcases List.mem_append.mp hm with z | z
    · exact J.m.gt a o e z
    · simp at z
      subst z
      have := R.m.gle _ _ e
      rw [n] at this
      cases this
  · rcases List.mem_append.mp hm with z | z
    · exact J.m.al a z
    · simp at z
      subst z
      exact ⟨_, upd_same⟩
  · by_cases hk : k < s.mem.length
    · rw [List.getElem?_append_left hk] at e
      obtain ⟨a, h1, h2, h3, h4⟩ := J.m.ob k o e hg
      obtain ⟨zs, q, rz⟩ := h4
      exact ⟨a, pre_get pre h1, h2, h3, zs, q, rz.mono (FLe.refl _) pre⟩
    · rw [List.getElem?_append_right (by omega)] at e
      have e0 : k - s.mem.length = 0 := by
        rcases Nat.eq_zero_or_pos (k - s.mem.length) with z | z
        · exact z
        · rw [List.getElem?_eq_none (by simp; omega)] at e; cases e
      rw [e0] at e
      cases e
      have ek : k = θ.length := by rw [← R.m.len]; omega
      subst ek
      refine ⟨p, by simp, R.m.fle.none n, R.m.gle.none n, xs, upd_same, r.mono (FLe.refl _) pre⟩
  · have rr := J.slot i x e
    cases x with
    | none => exact rr
    | val t => obtain ⟨y, e1, q⟩ := rr; exact ⟨y, e1, q.mono (FLe.refl _) pre⟩
    | own m =>
      obtain ⟨a, zs, e1, h, f, g, t, q⟩ := rr
      refine ⟨a, zs, e1, h, f, g, ?_, q.mono (FLe.refl _) pre⟩
      rw [List.mem_append]
      rintro (z | z)
      · exact t z
      · simp at z
        subst z
        obtain ⟨b, ws, e2, h2, _⟩ := R.slot i _ e
        rw [e1] at e2
        cases e2
        rw [n] at h2
        cases h2
/-- a shared list changes -/
theorem Rel.memUpd {n : Nat} {l l' : Ob} {a : Addr} {ys : HO} (R : Rel K F G θ s σ H) (e : s.mem[n]? = some l) (hl : l ≠ .gone) (ea : θ[n]? = some a) (r : RpB K F θ a l' ys) : Rel K F G θ ⟨s.env, s.mem.set n l'⟩ σ (upd H a ys) := by
  obtain ⟨b, h1, f, g, xs, h, rx⟩ := R.m.ob n _ e hl
  rw [ea] at h1
  cases h1
  have hn : n < s.mem.length := (List.getElem?_eq_some_iff.mp e).1
  refine ⟨⟨fun b u q => ?_, fun b u q => ?_, R.m.fg, by simpa using R.m.len, R.m.nd, R.m.gt, fun b hb => ?_, fun k u q hu => ?_⟩, R.len, fun j x q => ?_, R.dis⟩
  · rw [upd_ne (ne_of_none q f)]; exact R.m.fle b u q
  · rw [upd_ne (ne_of_none q g)]; exact R.m.gle b u q
  · by_cases z : b = a
    · subst z; exact ⟨_, upd_same⟩
    · obtain ⟨o, ho⟩ := R.m.al b hb
      exact ⟨o, by rw [upd_ne z]; exact ho⟩
  · rcases get_set q with ⟨rfl, rfl, _⟩ | ⟨ne, q⟩
    · exact ⟨a, ea, f, g, ys, upd_same, r⟩
    · obtain ⟨b, q1, q2, q3, q4⟩ := R.m.ob k u q hu
      have nb : b ≠ a := fun z => by
        subst z
        have hk : k < θ.length := (List.getElem?_eq_some_iff.mp q1).1
        have hn' : n < θ.length := (List.getElem?_eq_some_iff.mp ea).1
        have e1 := (List.getElem?_eq_some_iff.mp q1).2
        have e2 := (List.getElem?_eq_some_iff.mp ea).2
        exact ne ((List.getElem_inj R.m.nd).mp (e2.trans e1.symm))
      exact ⟨b, q1, q2, q3, by rw [upd_ne nb]; exact q4⟩
  · have rr := R.slot j x q
    cases x with
    | none => exact rr
    | val t => exact rr
    | own m =>
      obtain ⟨b, zs, e1, h1, f1, g1, t1, q1⟩ := rr
      have nb : b ≠ a := fun z => t1 (z ▸ List.mem_of_getElem? ea)
      exact ⟨b, zs, e1, by rw [upd_ne nb]; exact h1, f1, g1, t1, q1⟩

/-- a shared thing becomes one that stays -/
theorem Rel.memGone {n : Nat} {l : Ob} {a : Addr} {xs : HO} (R : Rel K F G θ s σ H) (e : s.mem[n]? = some l) (hl : l ≠ .gone) (ea : θ[n]? = some a) (h : H a = some xs) : Rel K (upd F a xs) G θ ⟨s.env, s.mem.set n .gone⟩ σ H := by
  obtain ⟨b, h1, f, g, ys, h', rx⟩ := R.m.ob n _ e hl
  rw [ea] at h1
  cases h1
  have le : FLe F (upd F a xs) := FLe.upd1 f
  refine ⟨⟨fun b u q => ?_, R.m.gle, fun b u q => ?_, by simpa using R.m.len, R.m.nd, R.m.gt, R.m.al, fun k u q hu => ?_⟩, R.len, fun i x q => ?_, R.dis⟩
  · by_cases z : b = a
    · subst z; rw [upd_same] at q; cases q; exact h
    · rw [upd_ne z] at q; exact R.m.fle b u q
  · rw [upd_ne (ne_of_none q g)]
    exact R.m.fg b u q
  · rcases get_set q with ⟨rfl, rfl, _⟩ | ⟨ne, q⟩
    · exact absurd rfl hu
    · obtain ⟨b, q1, q2, q3, q4⟩ := R.m.ob k u q hu
      have nb : b ≠ a := fun z => by
        subst z
        have e1 := (List.getElem?_eq_some_iff.mp q1).2
        have e2 := (List.getElem?_eq_some_iff.mp ea).2
        exact ne ((List.getElem_inj R.m.nd).mp (e2.trans e1.symm))
      obtain ⟨zs, q5, q6⟩ := q4
      exact ⟨b, q1, by rw [upd_ne nb]; exact q2, q3, zs, q5, q6.mono le (List.prefix_refl _)⟩
  · have rr := R.slot i x q
    cases x with
    | none => exact rr
    | val t => obtain ⟨y, e1, q⟩ := rr; exact ⟨y, e1, q.mono le (List.prefix_refl _)⟩
    | own m =>
      obtain ⟨b, zs, e1, h1, f1, g1, t1, q1⟩ := rr
      have nb : b ≠ a := fun z => t1 (z ▸ List.mem_of_getElem? ea)
      exact ⟨b, zs, e1, h1, by rw [upd_ne nb]; exact f1, g1, t1, q1.mono le (List.prefix_refl _)⟩

/-! ### targets -/
theorem wipe_set {i : Nat} {x : Option V} : ∀ {vs : List Nat} {σ : St}, i ∈ vs → wipe (σ.set i x) vs = wipe σ vs
  | v :: vs, σ, h => by
    unfold wipe
    by_cases hi : i ∈ vs
    · rw [wipe_set hi]
    · have e : i = v := by
        rcases List.mem_cons.mp h with z | z
        · exact z
        · exact absurd z hi
      subst e
      have : ∀ {ws : List Nat} {τ : St}, (wipe (τ.set i x) ws).set i none = (wipe τ ws).set i none := by
        intro ws
        induction ws with
        | nil =>
          intro τ
          show (τ.set i x).set i none = τ.set i none
          rw [List.set_set]
        | cons w ws ih =>
          intro τ
          show ((wipe (τ.set i x) ws).set w none).set i none = ((wipe τ ws).set w none).set i none
          by_cases hw : w = i
          · subst hw
            rw [ih]
          · rw [List.set_comm _ _ hw, List.set_comm _ _ hw, ih]
      exact this
def RG (K : Mx) (tg : Tg) : TG := fun v σ H Q => ∃ F G θ env m t env', Rel K F G θ ⟨env, m⟩ σ H ∧ Rp K F θ t v ∧ asg tg t env = some env' ∧
  ∀ σ', Rel K F G θ ⟨env', m⟩ σ' H → (∀ vs, tgIn vs tg = true → wipe σ' vs = wipe σ vs) → Q σ' H
def RGs (K : Mx) (tgs : List Tg) : TGs := fun xs σ H Q => ∃ F G θ env m l env', Rel K F G θ ⟨env, m⟩ σ H ∧ Rps K F θ l xs ∧ asgs tgs l env = some env' ∧
  ∀ σ', Rel K F G θ ⟨env', m⟩ σ' H → (∀ vs, tgsIn vs tgs = true → wipe σ' vs = wipe σ vs) → Q σ' H
theorem assignEach_cons {e : Expr} {es : List Expr} {env : Env} (h : isStar e = false) : assignEach (e :: es) env = (false, assign e env) :: assignEach es env := by
  cases e <;> first | rfl | (exact nomatch h)
theorem chkTs_len {N : List Str} {sc : Scope} {env : Env} : ∀ {gs : List Tg} {es : List Expr}, chkTs N sc gs es = true → (assignEach es env).length = gs.length ∧ (assignEach es env).findIdx? (·.1) = none
  | [], es, h => by
    cases es with
    | nil => exact ⟨rfl, rfl⟩
    | cons _ _ => exact nomatch h
  | g :: gs, es, h => by
    cases es with
    | nil => exact nomatch h
    | cons e es =>
      simp only [chkTs] at h
      obtain ⟨h1, h2⟩ := and2 h
      obtain ⟨h1, h3⟩ := and2 h1
      rw [assignEach_cons (by simpa using h1)]
      obtain ⟨q1, q2⟩ := chkTs_len (env := env) h2
      refine ⟨by rw [List.length_cons, List.length_cons, q1], ?_⟩
      rw [List.findIdx?_cons]
      simp [q2]
theorem asgs_len : ∀ {gs : List Tg} {l : List Tr} {env env' : List Slot}, asgs gs l env = some env' → l.length = gs.length
  | [], [], _, _, _ => rfl
  | [], _ :: _, _, _, h => by simp only [asgs] at h; cases h
  | _ :: _, [], _, _, h => by simp only [asgs] at h; cases h
  | g :: gs, t :: l, env, env', h => by
    simp only [asgs] at h
    cases e : asg g t env with
    | none => rw [e] at h; cases h
    | some env1 =>
      rw [e] at h
      rw [List.length_cons, List.length_cons, asgs_len h]
mutual
theorem sT {cl : List Str} {X : Cx} (hN : X.N.Nodup) (hc : X.calm = true) {sc : Scope} (loc : ∀ x, locB sc x = true → Loc X.env.scope x ∧ (X.fn x = true ∨ X.env.scope.names.lookup x = some .local)) : ∀ (tg : Tg) (ex : Expr), chkT X.N sc tg ex = true → PG X ex (RG (MX cl X) tg)
  | .nm i, ex, h => by
    simp only [chkT] at h
    split at h
    · rename_i x pos
      obtain ⟨h1, h2⟩ := and2 h
      have h1 := of_decide_eq_true h1
      obtain ⟨hl, hf⟩ := loc x h2
      refine ⟨fun pins s0 σ H v u Q I r q => ?_⟩
      obtain ⟨F, G, θ, env, m, t, env', R, rt, e, k⟩ := q
      simp only [asg] at e
      split at e
      · rename_i hh
        obtain ⟨h3, h4⟩ := and2 hh
        cases e
        refine (pg_name (i := i) hN h1 hl hf).run pins s0 σ H v u Q I r ?_
        refine k _ (R.store rt (of_decide_eq_true h4)) fun vs hv => ?_
        simp only [tgIn] at hv
        exact wipe_set (List.contains_iff_mem.mp hv)
      · cases e
    · cases h
  | .tp gs, ex, h => by
    simp only [chkT] at h
    split at h
    · rename_i es kk pos
      have hg := sTs (cl := cl) hN hc loc gs es h
      obtain ⟨q1, q2⟩ := chkTs_len (env := X.env) h
      refine ⟨fun pins s0 σ H v u Q I r q => ?_⟩
      obtain ⟨F, G, θ, env, m, t, env', R, rt, e, k⟩ := q
      cases t with
      | tup l =>
        simp only [asg] at e
        cases rt with
        | tup hq hr =>
          refine (pg_tup (n := gs.length) hc hg q1 q2).run pins s0 σ H _ u Q I r ⟨_, _, rfl, R.m.fle.tup hq, ?_, F, G, θ, env, m, l, env', R, hr, e, fun σ' R' w => k σ' R' fun vs hv => w vs (by simpa only [tgIn] using hv)⟩
          rw [hr.length, asgs_len e]
      | _ => simp only [asg] at e; cases e
    · cases h
theorem sTs {cl : List Str} {X : Cx} (hN : X.N.Nodup) (hc : X.calm = true) {sc : Scope} (loc : ∀ x, locB sc x = true → Loc X.env.scope x ∧ (X.fn x = true ∨ X.env.scope.names.lookup x = some .local)) : ∀ (tgs : List Tg) (es : List Expr), chkTs X.N sc tgs es = true → PGs X es (RGs (MX cl X) tgs)
  | [], es, h => by
    cases es with
    | cons _ _ => exact nomatch h
    | nil =>
      refine ⟨fun pins s0 σ H vs us Q I r q => ?_⟩
      obtain ⟨F, G, θ, env, m, l, env', R, rl, e, k⟩ := q
      cases l with
      | nil =>
        cases rl
        simp only [asgs] at e
        cases e
        exact pgs_nil.run pins s0 σ H [] us Q I r ⟨rfl, k σ R fun _ _ => rfl⟩
      | cons _ _ => simp only [asgs] at e; cases e
  | g :: gs, es, h => by
    cases es with
    | nil => exact nomatch h
    | cons x xs =>
      simp only [chkTs] at h
      obtain ⟨h1, h2⟩ := and2 h
      obtain ⟨h1, h3⟩ := and2 h1
      have g1 := sT (cl := cl) hN hc loc g x h3
      have g2 := sTs (cl := cl) hN hc loc gs xs h2
      refine ⟨fun pins s0 σ H vs us Q I r q => ?_⟩
      obtain ⟨F, G, θ, env, m, l, env', R, rl, e, k⟩ := q
      cases l with
      | nil => simp only [asgs] at e; cases e
      | cons t l =>
        simp only [asgs] at e
        cases e1 : asg g t env with
        | none => rw [e1] at e; cases e
        | some env1 =>
          rw [e1] at e
          cases rl with
          | cons r1 r2 =>
            refine (pgs_cons g1 g2 (by rw [assignEach_cons (by simpa using h1)]; rfl)).run pins s0 σ H _ us Q I r ⟨_, _, rfl, F, G, θ, env, m, t, env1, R, r1, e1, fun σ1 R1 w1 => ?_⟩
            refine ⟨F, G, θ, env1, m, l, env', R1, r2, e, fun σ2 R2 w2 => k σ2 R2 fun vs hv => ?_⟩
            simp only [tgsIn] at hv
            obtain ⟨v1, v2⟩ := and2 hv
            exact (w2 vs v2).trans (w1 vs v1)
end
/-! ### guards -/
theorem RelM.gth {m : List Ob} (M : RelM K F G θ m H) {a : Addr} {o : HO} (e : G a = some o) : a ∉ θ := M.gt a o e
theorem RelM.junk {m : List Ob} {p : Addr} {o : HO} (R : RelM K F G θ m H) (n : H p = none) : RelM K F G θ m (upd H p o) := by
  refine ⟨R.fle.new n, R.gle.new n, R.fg, R.len, R.nd, R.gt, fun a ha => ?_, fun k u e hu => ?_⟩
  · obtain ⟨o, ho⟩ := R.al a ha
    exact ⟨o, by rw [upd_ne (ne_of_none ho n)]; exact ho⟩
  · obtain ⟨a, h1, h2, h3, h4⟩ := R.ob k u e hu
    refine ⟨a, h1, h2, h3, ?_⟩
    obtain ⟨xs, q, r⟩ := h4
    exact ⟨xs, by rw [upd_ne (ne_of_none q n)]; exact q, r⟩
/-- one more thing is guarded -/
theorem RelM.guard {m : List Ob} {D : Addr} {o : HO} (R : RelM K F G θ m H) (h : H D = some o) (f : F D = none) (t : D ∉ θ) : RelM K F (upd G D o) θ m H := by
  refine ⟨R.fle, fun a u e => ?_, fun a u e => ?_, R.len, R.nd, fun a u e => ?_, R.al, fun k u e hu => ?_⟩
  · by_cases z : a = D
    · subst z; rw [upd_same] at e; cases e; exact h
    · rw [upd_ne z] at e; exact R.gle a u e
  · by_cases z : a = D
    · subst z; exact f
    · rw [upd_ne z] at e; exact R.fg a u e
  · by_cases z : a = D
    · subst z; exact t
    · rw [upd_ne z] at e; exact R.gt a u e
  · obtain ⟨a, h1, h2, h3, h4⟩ := R.ob k u e hu
    have ne : a ≠ D := fun z => t (z ▸ List.mem_of_getElem? h1)
    exact ⟨a, h1, h2, by rw [upd_ne ne]; exact h3, h4⟩
/-- it is let go and changed -/
theorem RelM.unguard {m : List Ob} {D : Addr} {o o' : HO} (R : RelM K F (upd G D o) θ m H) (g : G D = none) : RelM K F G θ m (upd H D o') := by
  have f : F D = none := R.fg D o upd_same
  have t : D ∉ θ := R.gth upd_same
  refine ⟨fun a u e => ?_, fun a u e => ?_, fun a u e => ?_, R.len, R.nd, fun a u e => R.gt a u (by rw [upd_ne (ne_of_none e g)]; exact e), fun a ha => ?_, fun k u e hu => ?_⟩
  · rw [upd_ne (ne_of_none e f)]; exact R.fle a u e
  · have ne : a ≠ D := ne_of_none e g
    rw [upd_ne ne]
    exact R.gle a u (by rw [upd_ne ne]; exact e)
  · exact R.fg a u (by rw [upd_ne (ne_of_none e g)]; exact e)
  · obtain ⟨o2, ho⟩ := R.al a ha
    exact ⟨o2, by rw [upd_ne (fun z : a = D => t (by rw [← z]; exact ha))]; exact ho⟩
  · obtain ⟨a, h1, h2, h3, h4⟩ := R.ob k u e hu
    have ne : a ≠ D := fun z => t (z ▸ List.mem_of_getElem? h1)
    exact ⟨a, h1, h2, by rw [upd_ne ne] at h3; exact h3, by rw [upd_ne ne]; exact h4⟩
theorem RelM.letgo {m : List Ob} {D : Addr} {o : HO} (R : RelM K F (upd G D o) θ m H) (g : G D = none) : RelM K F G θ m H := by
  refine ⟨R.fle, fun a u e => R.gle a u (by rw [upd_ne (ne_of_none e g)]; exact e), fun a u e => R.fg a u (by rw [upd_ne (ne_of_none e g)]; exact e), R.len, R.nd, fun a u e => R.gt a u (by rw [upd_ne (ne_of_none e g)]; exact e), R.al, fun k u e hu => ?_⟩
  obtain ⟨a, h1, h2, h3, h4⟩ := R.ob k u e hu
  have ne : a ≠ D := fun z => R.gth (a := D) upd_same (z ▸ List.mem_of_getElem? h1)
  exact ⟨a, h1, h2, by rw [upd_ne ne] at h3; exact h3, h4⟩
/-- one more thing is guarded -/
theorem Rel.guard {p : Addr} {o : HO} (R : Rel K F G θ s σ H) (h : H p = some o) (f : F p = none) (t : p ∉ θ) (ow : ∀ (i : Nat) (l : Ob), s.env[i]? = some (Slot.own l) → σ[i]? ≠ some (some (V.ref p))) : Rel K F (upd G p o) θ s σ H := by
  refine ⟨R.m.guard h f t, R.len, fun i x e => ?_, R.dis⟩
  have r := R.slot i x e
  cases x with
  | none => exact r
  | val t => exact r
  | own l =>
    obtain ⟨a, xs, e1, h1, f1, g1, t1, q⟩ := r
    have ne : a ≠ p := fun z => ow i l e (z ▸ e1)
    exact ⟨a, xs, e1, h1, f1, by rw [upd_ne ne]; exact g1, t1, q⟩
/-- a fresh thing is laid and guarded -/
theorem Rel.pend {p : Addr} {o : HO} (R : Rel K F G θ s σ H) (n : H p = none) : Rel K F (upd G p o) θ s σ (upd H p o) := by
  refine (R.junk (o := o) n).guard upd_same (R.m.fle.none n) (R.m.noTh n) fun i l e z => ?_
  obtain ⟨zs, q, _⟩ := R.ownAt e z
  rw [n] at q
  cases q
/-- a guarded thing is let go, changed, and stays -/
theorem Rel.pendDone {p : Addr} {o o' : HO} (R : Rel K F (upd G p o) θ s σ H) (g : G p = none) : Rel K (upd F p o') G θ s σ (upd H p o') := by
  have f : F p = none := R.m.fg p o upd_same
  have t : p ∉ θ := R.m.gt p o upd_same
  have ow : ∀ (i : Nat) (l : Ob), s.env[i]? = some (Slot.own l) → σ[i]? ≠ some (some (V.ref p)) := fun i l e z => by
    obtain ⟨zs, _, _, q, _⟩ := R.ownAt e z
    rw [upd_same] at q
    cases q
  have R2 : Rel K F G θ s σ (upd H p o') := by
    refine ⟨R.m.unguard g, R.len, fun i x e => ?_, R.dis⟩
    have r := R.slot i x e
    cases x with
    | none => exact r
    | val t => exact r
    | own l =>
      obtain ⟨a, xs, e1, h1, f1, g1, t1, q⟩ := r
      have ne : a ≠ p := fun z => ow i l e (z ▸ e1)
      exact ⟨a, xs, e1, by rw [upd_ne ne]; exact h1, f1, by rw [upd_ne ne] at g1; exact g1, t1, q⟩
  exact R2.fix upd_same f g t ow
end Ev
/-! enumerate over a tuple. -/
namespace Ev
open PySem PySem.Spec L2
theorem meets_enumT (l : Addr) (items : Array Value) :
    Meets (Builtin.«enumerate.__new__» ⟨[.type "enumerate", .ref l], []⟩) (fun _ R s => s.heap.IsTuple l items ∧
      R (.ok (.ret (.ref (s.heap.push { cls := .type "tuple_iterator", data := .fields #[.ref l, .int 0 0] }).objs.size)))
        { s with heap := (s.heap.push { cls := .type "tuple_iterator", data := .fields #[.ref l, .int 0 0] }).push { cls := .type "enumerate", data := .fields #[.none, .bool false, .ref s.heap.objs.size, rawInt 0, .none, .none] } }) :=
  .of_wp fun prog w A R s h => by
    obtain ⟨hp, g, d, tk, os⟩ := s; obtain ⟨hL, h⟩ := h
    have hsub := sub_enumerate
    have q1 : ∀ {A' : Around} {E : Value → Shared → Prop} {Q : Value → Shared → Prop}, Q (.ref hp.objs.size) ⟨hp.push { cls := .type "tuple_iterator", data := .fields #[.ref l, .int 0 0] }, g, d, tk, os⟩ → wpAny (model prog w) A' (pyIter (.ref l)) Q E ⟨hp, g, d, tk, os⟩ :=
      fun q => wpAny_pyIter_tuple hL q
    wp_walk using q1
    refine wpAny_stack_any fun st => wpAny_pure ?_
    split
    · rename_i c _ _ _ _ _
      cases (c == Value.type "enumerate")
      · wp_walk using q1
        exact ⟨_, rfl, h⟩
      · wp_walk using q1
        exact ⟨_, rfl, h⟩
    · wp_walk using q1
      exact ⟨_, rfl, h⟩
section
variable {prog : Program} {w : World} {A : Around} {E : Value → Shared → Prop} {s : Shared}
theorem call_enumT {l : Addr} {items : Array Value} {Q : Value → Shared → Prop} (hL : s.heap.IsTuple l items)
    (h : ∀ h', IsEnum h' (s.heap.objs.size + 1) s.heap.objs.size 0 .none → h'.IsTupleIter s.heap.objs.size l 0 → h'.objs.size = s.heap.objs.size + 2 →
      (∀ b o, s.heap.get? b = some o → h'.get? b = some o) → Q (.ref (s.heap.objs.size + 1)) { s with heap := h' }) :
    wpAny (model prog w) A (call (.type "enumerate") [.ref l]) Q E s := by
  refine callType_new F.called_enumerate (by decide) (F.typeCall_enumerate_1 _) (F.newCall_enumerate_1 _) (fun obj => F.args_object_init_2 obj _) F.entry_enumerate_new
    (meets_enumT l items) ⟨hL, ?_⟩
  have hz : (s.heap.push { cls := .type "tuple_iterator", data := .fields #[.ref l, .int 0 0] }).objs.size = s.heap.objs.size + 1 := Heap.size_push ..
  show _ ∧ _
  rw [hz]
  have he : IsEnum ((s.heap.push { cls := .type "tuple_iterator", data := .fields #[.ref l, .int 0 0] }).push
      { cls := .type "enumerate", data := .fields #[.none, .bool false, .ref s.heap.objs.size, rawInt 0, .none, .none] }) (s.heap.objs.size + 1) s.heap.objs.size 0 .none := by
    have := Heap.get?_push_size (s.heap.push { cls := .type "tuple_iterator", data := .fields #[.ref l, .int 0 0] })
      (o := { cls := .type "enumerate", data := .fields #[.none, .bool false, .ref s.heap.objs.size, rawInt 0, .none, .none] }) rfl
    rw [hz] at this; exact this
  refine ⟨⟨_, he, rfl⟩, h _ he ⟨_, Heap.get?_push_of_some _ (Heap.get?_push_size _ rfl), rfl, rfl⟩ (by rw [Heap.size_push, hz]) fun b o x => Heap.get?_push_of_some _ (Heap.get?_push_of_some _ x)⟩
end
def IteT (K : PySem.W.Frag) (a : Addr) : It :=
  ⟨fun i H => ∃ (xs : List V) (x : V), SqT K H a xs ∧ xs[i]? = some x, fun i H v H' => ∃ T x, v = .ref T ∧ H T = none ∧ H' = upd H T (.tup [.int (i : Nat), x]) ∧ ∀ xs, SqT K H a xs → xs[i]? = some x, fun i H => ∃ xs : List V, SqT K H a xs ∧ xs.length ≤ i⟩
theorem turn_enumT {P : Program} {w : World} {K : PySem.W.Frag} {elts : List Expr} {kk : Nat} {tpos : Pos} (a e it : Addr) :
    Turn P w K (.Tuple elts kk tpos) (IteT K a) [e, it] e (fun i h => (∃ old, IsEnum h e it ((i : Nat) : Int) old) ∧ h.IsTupleIter it a i ∧ e ≠ it) where
  mem := by simp
  obj := fun i h st b hb => by
    obtain ⟨⟨old, he⟩, ⟨o, ho, hc, hd⟩, _⟩ := st
    have e' : b = e ∨ b = it := by simpa using hb
    rcases e' with z | z
    · rw [z]; exact ⟨_, he, fun v q => nomatch q⟩
    · rw [z]; exact ⟨o, ho, fun v q => by rw [hd] at q; cases q⟩
  keep := fun i h h' st k => let ⟨⟨old, he⟩, hi, hne⟩ := st; ⟨⟨old, k e (by simp) _ he⟩, hi.at fun o q => k it (by simp) o q, hne⟩
  item := by
    intro X hP hw hK hc i pins s σ H E I hf st hg
    subst hP hw hK
    obtain ⟨⟨old, he⟩, hit, hne⟩ := st
    obtain ⟨xs, x, hq, hx⟩ := hg
    obtain ⟨its, rv, p, hz⟩ := I.tuple hq
    obtain ⟨u, hu, ru⟩ := rv.get hx
    have hT0 : s.heap.IsTuple a its.toArray := p
    have hel : e < s.heap.objs.size := Heap.lt_size he
    have hil : it < s.heap.objs.size := by obtain ⟨_, q, _⟩ := hit; exact Heap.lt_size q
    have hal : a ≠ it := by
      rintro rfl
      obtain ⟨o1, q1, c1, _⟩ := hit
      obtain ⟨o2, q2, c2, _⟩ := hT0
      rw [q1] at q2
      cases q2
      rw [c1] at c2
      exact absurd c2 (by decide +kernel)
    have hae : e ≠ a := by
      rintro rfl
      obtain ⟨o2, q2, c2, _⟩ := hT0
      have : some _ = some o2 := he.symm.trans q2
      cases this
      have c3 : Value.type "enumerate" = Value.type "tuple" := c2
      exact absurd c3 (by decide +kernel)
    have hlt : i < its.toArray.size := by
      have := (List.getElem?_eq_some_iff.mp hu).1
      simpa using this
    refine wpAny_pyNext_enum_itemD (Draws.tuple (A := X.A.in1) (show X.A.in1.handled = none from I.ok.hd hc) it a hal its.toArray) he ⟨hit, hT0⟩ hlt hne (by simp [hne, hae]) fun u' h' tk hP ho hs' hT hsz hk => ?_
    obtain rfl : u = u' := by
      have : its[i]? = some u' := by simpa using hP
      rw [hu] at this
      exact Option.some.inj this
    obtain ⟨hit', _⟩ := hs'
    refine ⟨_, rfl, wpAny_letOwnedTupleGo_enum (s := { s with heap := h', toks := tk + 1 }) ho fun h'' he' sb => ?_⟩
    have hT2 : h''.get? s.heap.objs.size = some { cls := .type "tuple", data := .seq #[.int i tk, u] } := (sb.2 _ (Nat.ne_of_gt hel)).trans hT
    have new : ObjOk X.prog X.w (upd H s.heap.objs.size (.tup [.int (i : Nat), x])) h'' s.heap.objs.size (.tup [.int (i : Nat), x]) :=
      ⟨by show 2 ≤ sizeLine; decide, [.int i tk, u], .cons ⟨_, rfl⟩ (.cons ru .nil), ⟨_, hT2, rfl, _, rfl⟩⟩
    have I1 : Inv X pins σ (upd H s.heap.objs.size (.tup [.int (i : Nat), x])) { s with heap := h'', toks := tk + 1 } :=
      I.turnedNew (ch := [e, it]) (fun b ob hb q => (sb.2 b (fun z => hb (by simp [z]))).trans (hk b ob (fun z => hb (by simp [z])) (fun z => hb (by simp [z])) q)) hf (Nat.le_refl _) new
    refine ⟨.ref s.heap.objs.size, _, I1, rfl, ⟨_, x, rfl, I.hok.fresh (Nat.le_refl _), rfl, fun ys hy => ?_⟩, ⟨⟨u, ?_⟩, hit'.at fun o q => (sb.2 it (Ne.symm hne)).trans q, hne⟩, fun b hb => ?_⟩
    · rw [I.tuple_inj hy hq]; exact hx
    · have e1 : ((i + 1 : Nat) : Int) = (i : Int) + 1 := by omega
      rw [e1]; exact he'
    · have hb' : b < s.heap.objs.size := by
        have e' : b = e ∨ b = it := by simpa using hb
        rcases e' with z | z
        · rw [z]; exact hel
        · rw [z]; exact hil
      rw [upd_ne (Nat.ne_of_lt hb')]
      exact (hf b hb).1
  done := by
    intro X hP hw hK hc i pins s σ H E I hf st hg
    subst hP hw hK
    obtain ⟨⟨old, he⟩, hit, hne⟩ := st
    obtain ⟨xs, hq, hx⟩ := hg
    obtain ⟨its, rv, p, hz⟩ := I.tuple hq
    have hT0 : s.heap.IsTuple a its.toArray := p
    obtain ⟨f0, f1, f2, f3, f4, f5⟩ := hf it (by simp)
    have hl := rv.length
    have hT : s.TypeIs (.ref e) "enumerate" := ⟨_, he, rfl⟩
    unfold pyNext
    refine wpAny_bind (wpAny_attempt (wpAny_callSpecial?_slot (name := Str.ofString "__next__") hT F.slot_enumerate_next
      (wpAny_call_entry F.slot_enumerate_next hT F.entry_enumerate_next ?_ (F.args_enumerate_next_1 _))))
    show wpAny _ _ (field (.ref e) 2 >>= _) _ _ _
    refine wpAny_bind (wpAny_field he rfl (x := .ref it) rfl ?_)
    refine wpAny_bind (RZ.nextOf_tuple_end (I.ok.hd hc) hit hT0 (by simp; omega) fun h' x he' hx' => ?_)
    obtain ⟨o, ho, hc⟩ := hx'
    refine wpAny_bind (wpAny_isInstance (T := "StopIteration") (b := true) ⟨o, ho, hc⟩ isSubtype_stop ?_)
    exact wpAny_pure ⟨rfl, I.turned (t' := s.toks) (fun b o hb q => he' b o hb q) f0 f1 f3 f4 f5⟩
  self := fun A i s Q E st h => let ⟨⟨_, he⟩, _⟩ := st; wpAny_pyIter_enum he h
def iEnumT (K : PySem.W.Frag) (ta : TA) : TI := fun σ H R => ta σ H fun vs H1 => ∃ a xs, vs = [.ref a] ∧ SqT K H1 a xs ∧ R (IteT K a) H1
theorem pi_enumT {X : Cx} {e : Expr} {ta : TA} {p pos tpos : Pos} {elts : List Expr} {kk : Nat} (hg : Gl X "enumerate") (hm : X.mg "enumerate" = none) (ha : PA X [e] ta) (hs : starEach [e] X.env = [(false, eval e X.env)] := by rfl) :
    PI X (.Tuple elts kk tpos) (.Call (.Name "enumerate" p) [e] [] pos) (iEnumT X.K ta) := by
  refine ⟨fun pins s σ H R I h => ?_⟩
  refine PyProof.Rows.Call_ (ld_blt I hg hm PyProof.Rows.boot_enumerate (PyProof.Rows.callWith_type1 (thn (ha.run pos pins s σ H _ I h) fun us s1 ⟨vs, H1, I1, r1, q1⟩ => ?_) hs rfl))
  obtain ⟨a, xs, ex, hq, q⟩ := q1
  subst ex
  cases r1 with
  | cons r rr =>
    cases rr
    cases r
    obtain ⟨its, rv, p', hz⟩ := I1.tuple hq
    refine call_enumT (show s1.heap.IsTuple a its.toArray from p') fun h' he hit hsz hk => wpAny_pyIter_enum he ?_
    have I2 : Inv X pins σ H1 { s1 with heap := h' } := I1.kept (t' := s1.toks) hk
    refine ⟨s1.heap.objs.size + 1, [s1.heap.objs.size + 1, s1.heap.objs.size], _, _, H1, rfl, I2, turn_enumT a (s1.heap.objs.size + 1) s1.heap.objs.size, ⟨⟨.none, he⟩, hit, Nat.succ_ne_self _⟩, fun b hb => ?_, q⟩
    have e' : b = s1.heap.objs.size + 1 ∨ b = s1.heap.objs.size := by simpa using hb
    have hle : s1.heap.objs.size ≤ b := by
      rcases e' with z | z
      · rw [z]; exact Nat.le_add_right _ _
      · rw [z]; exact Nat.le_refl _
    exact I1.fpOk hle (I1.hok.fresh hle)
theorem walk_enumT {K : PySem.W.Frag} {a : Addr} {xs : List V} : Walk (IteT K a) xs.length (fun H => SqT K H a xs) (fun i H v H' => ∃ T x, v = .ref T ∧ H T = none ∧ H' = upd H T (.tup [.int (i : Nat), x]) ∧ xs[i]? = some x) :=
  ⟨fun i H hi h => ⟨xs, xs[i]'hi, h, by simp⟩, fun H h => ⟨xs, h, Nat.le_refl _⟩, fun i H x H' hi h y => by
    obtain ⟨T, x1, e1, e2, e3, e4⟩ := y
    exact ⟨T, x1, e1, e2, e3, e4 xs h⟩⟩
end Ev
/-! t[::-1], t a tuple. -/
namespace Ev
open PySem PySem.Spec L2
open HT
open PyProof.Rows hiding St
section
variable {prog : Program} {w : World} {A : Around} {E : Value → Shared → Prop} {s : Shared}
theorem applied_rev {sl : Addr} {vl vu vs : Value} {n : Nat} {Q : Int × Int × Nat → Shared → Prop} (hs : s.heap.IsSliceOf sl vl vu vs) (pl : IsPart vl none) (pu : IsPart vu none) (ps : IsPart vs (some (-1)))
    (h : Q ((n : Int) - 1, -1, n) s) : wpAny (model prog w) A (Builtin.Slice.sliceApplied (.ref sl) (pure (n : Int))) Q E s := by
  obtain ⟨o, ho, hc, hd⟩ := id hs
  unfold Builtin.Slice.sliceApplied Builtin.Slice.sliceFields
  refine wpAny_bind (wpAny_bind (wpAny_field ho hd (x := vl) rfl (wpAny_bind (wpAny_field ho hd (x := vu) rfl (wpAny_bind (wpAny_field ho hd (x := vs) rfl (wpAny_pure ?_)))))))
  refine wpAny_bind (slicePart_ ps ?_)
  show wpAny _ _ (if ((-1 : Int) == 0) = true then _ else _) _ _ s
  rw [if_neg (by decide)]
  refine wpAny_bind (slicePart_ pl (wpAny_bind (slicePart_ pu (wpAny_bind (wpAny_pure ?_)))))
  have e : Builtin.Slice.slicePlaces ((n : Int) - 1) (-1) (-1) = n := by
    unfold Builtin.Slice.slicePlaces
    rw [if_neg (by decide)]
    by_cases z : n = 0
    · subst z; rfl
    · rw [if_pos (by omega), show (- -1 : Int) = 1 from rfl, Int.ediv_one]
      omega
  show wpAny _ _ (pure ((n : Int) - 1, (-1 : Int), Builtin.Slice.slicePlaces ((n : Int) - 1) (-1) (-1))) _ _ s
  rw [e]
  exact wpAny_pure h
theorem pick_rev (xs : Array Value) : ((List.range xs.size).filterMap fun (m : Nat) => xs[(((xs.size : Nat) : Int) - 1 + (m : Int) * -1).toNat]?).toArray = xs.toList.reverse.toArray := by
  congr 1
  have e : ∀ n : Nat, n ≤ xs.size → (List.range n).filterMap (fun (m : Nat) => xs[(((xs.size : Nat) : Int) - 1 + (m : Int) * -1).toNat]?) = (xs.toList.drop (xs.size - n)).reverse := by
    intro n
    induction n with
    | zero => intro _; simp
    | succ n ih =>
      intro hn
      have i : (((xs.size : Nat) : Int) - 1 + (n : Int) * -1).toNat = xs.size - (n + 1) := by omega
      have hlt : xs.size - (n + 1) < xs.toList.length := by rw [Array.length_toList]; omega
      rw [List.range_succ, List.filterMap_append, ih (by omega), List.filterMap_cons, i]
      have g : xs[xs.size - (n + 1)]? = some (xs.toList[xs.size - (n + 1)]'hlt) := by
        rw [Array.getElem?_eq_getElem (by rw [Array.length_toList] at hlt; exact hlt)]
        rfl
      rw [g, List.filterMap_nil, List.drop_eq_getElem_cons hlt, List.reverse_cons, show xs.size - (n + 1) + 1 = xs.size - n by omega]
  rw [e xs.size (Nat.le_refl _), Nat.sub_self, List.drop_zero]
theorem item_rev {t sl : Addr} {items : Array Value} {vl vu vs : Value} {Q : Value → Shared → Prop} (ht : IsTup s.heap t items) (hs : s.heap.IsSliceOf sl vl vu vs) (pl : IsPart vl none) (pu : IsPart vu none) (ps : IsPart vs (some (-1)))
    (h : Q (.ref s.heap.objs.size) { s with heap := s.heap.push { cls := .type "tuple", data := .seq items.toList.reverse.toArray } }) (hsz : items.size ≤ sizeLine) : wpAny (model prog w) A (getItem (.ref t) (.ref sl)) Q E s := by
  have hfit : sizeOk (.seq items.toList.reverse.toArray) := by
    show items.toList.reverse.toArray.size ≤ sizeLine
    rw [List.size_toArray, List.length_reverse, Array.length_toList]
    exact hsz
  obtain ⟨o, ho, hc, hd⟩ := id hs
  have hT : s.TypeIs (.ref sl) "slice" := ⟨o, ho, hc⟩
  unfold getItem
  try with_reducible refine wpAny_holding ?_
  first | refine wpAny_bind (wpAny_pure ?_) | skip
  refine wpAny_bind (wpAny_sequenceKey ht.typeIs (by decide) ?_)
  refine wpAny_bind (wpAny_callSpecial?_slot (name := Str.ofString "__getitem__") ht.typeIs slot_tuple_getitem
    (wpAny_call_entry slot_tuple_getitem ht.typeIs entry_tuple_getitem ?_ (args_tuple_getitem _ _)))
  show wpAny _ _ (Builtin.Tuple.tupleItemsOf (.ref t) >>= _) _ _ s
  refine wpAny_bind (tupleItemsOf_ ht ?_)
  refine wpAny_bind (wpAny_typeOf hT ?_)
  rw [if_pos (by decide)]
  refine wpAny_bind (applied_rev hs pl pu ps ?_)
  have hno : ¬ (((((items.size : Nat) : Int) - 1) == 0 && (-1 : Int) == 1 && items.size == items.size) = true) := by
    rw [show ((-1 : Int) == 1) = false from rfl, Bool.and_false, Bool.false_and]
    exact Bool.false_ne_true
  show wpAny _ _ (if ((((items.size : Nat) : Int) - 1) == 0 && (-1 : Int) == 1 && items.size == items.size) = true then _ else _) _ _ s
  rw [if_neg hno, pick_rev]
  first
    | exact wpAny_bind (m := Builtin.Tuple.tupleExact _) (wpAny_newObj_type (wpAny_pure ⟨_, rfl, wpAny_pure h⟩) hfit)
    | exact wpAny_bind (m := Builtin.Tuple.tupleExact _) (wpAny_newObj_type (wpAny_bind (wpAny_pure (wpAny_pure ⟨_, rfl, wpAny_pure h⟩))) hfit)
    | exact wpAny_bind (wpAny_bind (m := Builtin.Tuple.tupleExact _) (wpAny_newObj_type (wpAny_pure (wpAny_pure ⟨_, rfl, wpAny_pure h⟩)) hfit))
    | exact wpAny_bind (wpAny_bind (m := Builtin.Tuple.tupleExact _) (wpAny_newObj_type (wpAny_pure ⟨_, rfl, wpAny_pure h⟩) hfit))
end
def tRevT (K : PySem.W.Frag) (te : TE) : TE := fun σ H Q => te σ H fun x H1 => ∃ a xs, x = .ref a ∧ SqT K H1 a xs ∧ ∀ p, H1 p = none → Q (.ref p) (upd H1 p (.tup xs.reverse))
theorem pe_revT {X : Cx} {e : Expr} {te : TE} {k : Nat} {p1 p2 p3 pos : Pos} (he : PE X e te) : PE X (.Subscript e (.Slice none none (some (.UnaryOp .USub (.Constant (.int 1) k p1) p2)) p3) pos) (tRevT X.K te) := by
  refine ⟨fun pins s σ H Q I h => Subscript_ (thn (he.run pins s σ H _ I h) fun v s1 ⟨x, H1, I1, r1, a, xs, ex, hx, q⟩ => ?_)⟩
  subst ex
  cases r1
  have hst : PO X (some (.UnaryOp .USub (.Constant (.int 1) k p1) p2)) (tPart (tUn (rU fun i => .int (-i)) (tC (.int 1)))) := po_some (pe_un un_neg pe_int)
  refine wpAny_Slice (thn (po_none.run pins s1 σ H1 (fun o H2 => o = none ∧ H2 = H1) I1 ⟨rfl, rfl⟩) fun vl s2 ⟨l, H2, I2, pl, el, e2⟩ => ?_)
  subst el e2
  refine thn (po_none.run pins s2 σ H2 (fun o H3 => o = none ∧ H3 = H2) I2 ⟨rfl, rfl⟩) fun vu s3 ⟨u, H3, I3, pu, eu, e3⟩ => ?_
  subst eu e3
  refine thn (hst.run pins s3 σ H3 (fun o H4 => o = some (-1) ∧ H4 = H3) I3 ⟨1, rfl, -1, rfl, rfl, rfl⟩) fun vs s4 ⟨o, H4, I4, ps, eo, e4⟩ => ?_
  subst eo e4
  have I5 : Inv X pins σ H4 { s4 with heap := s4.heap.push { cls := .type "slice", data := .fields #[vl, vu, vs] } } := I4.kept (t' := s4.toks) fun b ob q => Heap.get?_push_of_some _ q
  obtain ⟨its, r, ht, hz⟩ := I5.tuple hx
  have hlen := r.length
  show wpAny (model X.prog X.w) X.A (subscriptTail e (.Slice none none (some (.UnaryOp .USub (.Constant (.int 1) k p1) p2)) p3) (.ref a) (.ref s4.heap.objs.size)) (EP X pins σ Q) X.xe { s4 with heap := s4.heap.push { cls := .type "slice", data := .fields #[vl, vu, vs] } }
  refine tail_any (ops := [.ref a, .ref s4.heap.objs.size]) ht.typeIs (slot_tuple_getitem.lookup) ?_ (by with_unfolding_all rfl)
  refine item_rev ht (Heap.IsSliceOf.new _ vl vu vs) pl pu ps ?_ (by rw [List.size_toArray]; omega)
  refine ⟨.ref _, _, I5.laid (t' := s4.toks) (o := .tup xs.reverse) (fun b ob q => Heap.get?_push_of_some _ q) (Nat.le_refl _) ?_, rfl, q _ (I5.hok.fresh (Nat.le_refl _))⟩
  exact ⟨by rw [List.length_reverse]; exact hz, _, r.reverse, IsTup.new _ _⟩
end Ev
/-! Soundness: what loops and comprehensions walk. -/
namespace Ev
open PySem PySem.Spec L2
variable {K : Mx} {F F' G H : Hp} {θ θ' : List Addr} {s : Sta} {σ : St}

theorem len2 {α : Type} {l : List α} (h : l.length = 2) : ∃ a b, l = [a, b] := by
  match l, h with
  | [a, b], _ => exact ⟨a, b, rfl⟩

def chkIt (D : Ds) (N : List Str) (sc : Scope) (k : Nat) (tg : Tg) (its : List Ex) (iter : Expr) : Bool := match k with
      | 0 => chks D N sc its [iter]
      | 1 => (match iter with
        | .Call (.Name y _) ys [] _ => blB D sc y "range" && chks D N sc its ys && decide (ys.length = 1)
        | _ => false)
      | 2 => (match iter with
        | .Call (.Name y _) ys [] _ => blB D sc y "range" && chks D N sc its ys && decide (ys.length = 2)
        | _ => false)
      | 3 => isTp tg && (match iter with
        | .Call (.Name y _) ys [] _ => blB D sc y "enumerate" && chks D N sc its ys && decide (ys.length = 1)
        | _ => false)
      | 4 => isTp tg && (match iter with
        | .Call (.Name y _) ys [] _ => blB D sc y "zip" && chks D N sc its ys && decide (ys.length = 2)
        | _ => false)
      | _ => false
def YOk (K : Mx) (F : Hp) (θ : List Addr) (xs : List Tr) : Nat → Hp → V → Hp → Prop := fun i H x H' => ∃ t, xs[i]? = some t ∧
  ((H' = H ∧ Rp K F θ t x) ∨ ∃ p l vs, H p = none ∧ x = .ref p ∧ H' = upd H p (.tup vs) ∧ t = .tup l ∧ Rps K F θ l vs ∧ vs.length ≤ sizeLine)
section
variable (gc : Nat → Option Tr) (cf : CF)
def RI (K : Mx) (k : Nat) (its : List Ex) : TI := fun σ H R => ∃ F G θ s vs s1 xs, Rel K F G θ s σ H ∧ evEs gc cf its s = .ok vs s1 ∧ (vs.map s1.deref).all Tr.pure = true ∧ items k (vs.map s1.deref) = some xs ∧
  ∀ J H' F' θ', Rel K F' G θ' s1 σ H' → FLe F F' → θ <+: θ' → Walk J xs.length (fun H => FLe F' H ∧ (vs.all Tr.pure = true ∨ FLe (ownG s1 σ G H') H)) (YOk K F' θ' xs) → R J H'
end
def isTupT : Tr → Bool
  | .tup _ => true
  | _ => false
/-- a sequence that stays while others work -/
theorem Rel.stable (R : Rel K F G θ s σ H) {t : Tr} {v : V} {l : List Tr} (r : RpV K F θ σ t v) (h : seqT (s.deref t) = some l) : ∃ a xs, v = .ref a ∧ Rps K F θ l xs ∧
    ∀ H', FLe F H' → (t.pure = true ∨ FLe (ownG s σ G H) H') → if isTupT (s.deref t) = true then SqT K H' a xs else SqL K H' a xs := by
  have pureCase : ∀ {t t' : Tr}, Rp K F θ t v → seqT t = some l → ∃ a xs, v = .ref a ∧ Rps K F θ l xs ∧ ∀ H', FLe F H' → (t'.pure = true ∨ FLe (ownG s σ G H) H') → if isTupT t = true then SqT K H' a xs else SqL K H' a xs := by
    intro t t' r h
    cases r with
    | tup q r => cases h; exact ⟨_, _, rfl, r, fun H' f _ => by rw [if_pos (show isTupT (.tup _) = true from rfl)]; exact f.tup q⟩
    | lst q r => cases h; exact ⟨_, _, rfl, r, fun H' f _ => by rw [if_neg (by simp [isTupT])]; exact SqL.of (f _ _ q)⟩
    | flst q r => cases h; exact ⟨_, _, rfl, r, fun H' f _ => by rw [if_neg (by simp [isTupT])]; exact f.lst q⟩
    | _ => cases h
  cases t with
  | bor i =>
    have r' : σ[i]? = some (some v) := r
    cases e : s.env[i]? with
    | none => rw [deref_none e] at h; cases h
    | some x =>
      have q := R.slot i x e
      rw [deref_slot e] at h ⊢
      cases x with
      | none => cases h
      | val t =>
        obtain ⟨y, e1, q⟩ := q
        rw [r'] at e1
        cases e1
        exact pureCase q h
      | own l' =>
        obtain ⟨a, o, e1, hh, _, _, _, q⟩ := q
        rw [r'] at e1
        cases e1
        cases l' <;> first | (cases h; done) | skip
        cases h
        obtain ⟨xs, rfl, q⟩ := q
        exact ⟨a, xs, rfl, q, fun H' _ g => by rw [if_neg (by simp [isTupT, Ob.tr])]; exact SqL.of ((g.resolve_left (fun z => nomatch z)) _ _ ((ownG_of (s := s) e r').trans hh))⟩
  | _ => exact pureCase (r.rp rfl) h
theorem blB_ok {D : Ds} {gc : Nat → Option Tr} {cf : CF} {X : Cx} {sc : Scope} (C : Cxt D gc cf X sc) {x y : Str} (h : blB D sc x y = true) : x = y ∧ Gl X x ∧ X.mg x = none := by
  unfold blB at h
  obtain ⟨h1, h2⟩ := and2 h
  obtain ⟨h1, h3⟩ := and2 h1
  exact ⟨of_decide_eq_true h1, C.glo _ h3, C.blt _ (of_decide_eq_true h2)⟩
theorem rgT_get {a b : Int} {i : Nat} (h : i < (b - a).toNat) : (rgT a b)[i]? = some (.int (a + i)) := by
  unfold rgT
  rw [List.getElem?_map, List.getElem?_range h]
  rfl
theorem rgT_len {a b : Int} : (rgT a b).length = (b - a).toNat := by unfold rgT; simp
theorem items_seq {ts : List Tr} {xs : List Tr} (h : items 0 ts = some xs) : (∃ z : Str, ts = [.str z] ∧ xs = z.cps.toList.map fun c => .str ⟨#[c]⟩) ∨ ∃ t, ts = [t] ∧ seqT t = some xs := by
  unfold items at h
  split at h
  · cases h; exact .inl ⟨_, rfl, rfl⟩
  · exact .inr ⟨_, rfl, h⟩
  all_goals first | (cases h; done) | contradiction
theorem items_rg1 {ts : List Tr} {xs : List Tr} (h : items 1 ts = some xs) : ∃ n, ts = [.int n] ∧ (-(2 ^ 62) ≤ n ∧ n < 2 ^ 62) ∧ xs = rgT 0 n := by
  unfold items at h
  split at h
  all_goals first
    | (cases h; done)
    | contradiction
    | (split at h
       · cases h; exact ⟨_, rfl, in62_ok (by assumption), rfl⟩
       · cases h)
theorem items_rg2 {ts : List Tr} {xs : List Tr} (h : items 2 ts = some xs) : ∃ a b, ts = [.int a, .int b] ∧ (-(2 ^ 62) ≤ a ∧ a < 2 ^ 62 ∧ -(2 ^ 62) ≤ b ∧ b < 2 ^ 62) ∧ xs = rgT a b := by
  unfold items at h
  split at h
  all_goals first
    | (cases h; done)
    | contradiction
    | (split at h
       · rename_i hb; cases h; obtain ⟨q1, q2⟩ := and2 hb; exact ⟨_, _, rfl, ⟨(in62_ok q1).1, (in62_ok q1).2, in62_ok q2⟩, rfl⟩
       · cases h)
theorem items_enum {ts : List Tr} {xs : List Tr} (h : items 3 ts = some xs) : ∃ t l, ts = [t] ∧ seqT t = some l ∧ xs = enumT l := by
  unfold items at h
  split at h
  all_goals first
    | (cases h; done)
    | contradiction
    | (obtain ⟨l, h1, h2⟩ := map_some h; exact ⟨_, l, rfl, h1, h2.symm⟩)
theorem items_zip {ts : List Tr} {xs : List Tr} (h : items 4 ts = some xs) : ∃ t u l m, ts = [t, u] ∧ seqT t = some l ∧ seqT u = some m ∧ xs = zipT l m ∧ isTupT t = isTupT u := by
  unfold items at h
  split at h
  all_goals first
    | (cases h; done)
    | contradiction
    | (cases h; exact ⟨_, _, _, _, rfl, rfl, rfl, rfl, rfl⟩)
theorem enumT_get {l : List Tr} {i : Nat} {t : Tr} (h : l[i]? = some t) : (enumT l)[i]? = some (.tup [.int i, t]) := by
  unfold enumT
  have hi : i < l.length := (List.getElem?_eq_some_iff.mp h).1
  rw [List.getElem?_zipWith, List.getElem?_range hi, h]
theorem enumT_len {l : List Tr} : (enumT l).length = l.length := by unfold enumT; simp
theorem zipT_get {l m : List Tr} {i : Nat} {t u : Tr} (h : l[i]? = some t) (h' : m[i]? = some u) : (zipT l m)[i]? = some (.tup [t, u]) := by
  unfold zipT
  rw [List.getElem?_zipWith, h, h']
theorem zipT_len {l m : List Tr} : (zipT l m).length = min l.length m.length := by unfold zipT; simp

section
variable {D : Ds} {gc : Nat → Option Tr} {cf : CF} {X : Cx}
theorem two_le_line : 2 ≤ sizeLine := by decide
/-- what a loop walks -/
theorem sI {sc : Scope} (C : Cxt D gc cf X sc) {k : Nat} {tg : Tg} {tge iter : Expr} {its : List Ex} (hPE : ∀ e x, its = [e] → chk D X.N sc e x = true → PE X x (RE gc cf (MX D.cl X) e)) (hPA : ∀ xs, chks D X.N sc its xs = true → PA X xs (RA gc cf (MX D.cl X) its))
    (ht : chkT X.N sc tg tge = true ∨ ∃ N sc', chkT N sc' tg tge = true) (h : chkIt D X.N sc k tg its iter = true) : PI X tge iter (RI gc cf (MX D.cl X) k its) := by
  have tgTup : isTp tg = true → ∃ es kk pos, tge = .Tuple es kk pos := by
    intro hp
    obtain ⟨N, sc, ht⟩ : ∃ N sc', chkT N sc' tg tge = true := by
      rcases ht with z | z
      · exact ⟨_, _, z⟩
      · exact z
    cases tg with
    | nm i => cases hp
    | tp gs =>
      simp only [chkT] at ht
      split at ht
      · exact ⟨_, _, _, rfl⟩
      · cases ht
  refine ⟨fun pins s0 σ H R0 I q => ?_⟩
  obtain ⟨F, G, θ, s, vs, s1, xs, R, e, hp, hi, kk⟩ := q
  unfold chkIt at h
  split at h
  · -- a sequence
    cases its with
    | nil => simp only [evEs] at e; cases e; rcases items_seq hi with ⟨t, h1, h2⟩ | ⟨t, h1, h2⟩ <;> cases h1
    | cons ee es =>
      simp only [chks] at h
      obtain ⟨h3, h4⟩ := and2 h
      obtain ⟨h3, h5⟩ := and2 h3
      cases es with
      | cons _ _ => exact nomatch h4
      | nil =>
        have pe := hPE ee iter rfl h5
        simp only [evEs] at e
        obtain ⟨t', s2, e1, e2⟩ := Rs.bind_eq e
        cases e2
        rcases items_seq hi with ⟨z, h1, h2⟩ | ⟨t, h1, h2⟩
        · rw [List.map_cons, List.map_nil] at h1
          injection h1 with h1
          refine (pi_str (tg := tge) pe).run pins s0 σ H R0 I ⟨F, G, θ, s, t', s1, R, e1, fun v H1 F1 θ1 R1 l1 p1 r1 => ?_⟩
          have rr := R1.read r1 (by rw [h1]; rfl)
          rw [h1] at rr
          cases strH rr
          refine ⟨z, rfl, kk _ H1 F1 θ1 R1 l1 p1 ?_⟩
          rw [h2, List.length_map, Array.length_toList]
          refine (walk_str (z := z)).mono (fun _ _ => trivial) fun i H' x H'' hi' _ y => ?_
          obtain ⟨y1, c, y2, rfl⟩ := y
          exact ⟨.str ⟨#[c]⟩, by rw [List.getElem?_map, Array.getElem?_toList, y2]; rfl, .inl ⟨y1, .str _⟩⟩
        cases h1
        by_cases hT : isTupT (s1.deref t') = true
        · refine (pi_tup (tg := tge) pe).run pins s0 σ H R0 I ⟨F, G, θ, s, t', s1, R, e1, fun v H1 F1 θ1 R1 l1 p1 r1 => ?_⟩
          obtain ⟨a, ys, rfl, rr, st⟩ := R1.stable r1 h2
          have st' : ∀ H', FLe F1 H' → ([t'].all Tr.pure = true ∨ FLe (ownG s1 σ G H1) H') → SqT X.K H' a ys := fun H' f g => by have := st H' f (g.imp_left (by simp)); rw [if_pos hT] at this; exact this
          refine ⟨a, rfl, ⟨ys, st' H1 R1.m.fle (.inr R1.out.gle)⟩, kk _ H1 F1 θ1 R1 l1 p1 ?_⟩
          rw [← rr.length]
          refine (walk_tup (xs := ys)).mono (fun H' hh => st' H' hh.1 hh.2) fun i H' x H'' hi' _ y => ?_
          obtain ⟨t, g1, g2⟩ := rr.get' y.2
          exact ⟨t, g1, .inl ⟨y.1, g2⟩⟩
        · refine (pi_list (tg := tge) pe).run pins s0 σ H R0 I ⟨F, G, θ, s, t', s1, R, e1, fun v H1 F1 θ1 R1 l1 p1 r1 => ?_⟩
          obtain ⟨a, ys, rfl, rr, st⟩ := R1.stable r1 h2
          have st' : ∀ H', FLe F1 H' → ([t'].all Tr.pure = true ∨ FLe (ownG s1 σ G H1) H') → SqL X.K H' a ys := fun H' f g => by have := st H' f (g.imp_left (by simp)); rw [if_neg hT] at this; exact this
          refine ⟨a, rfl, ⟨ys, st' H1 R1.m.fle (.inr R1.out.gle)⟩, kk _ H1 F1 θ1 R1 l1 p1 ?_⟩
          rw [← rr.length]
          refine (walk_list (xs := ys)).mono (fun H' hh => st' H' hh.1 hh.2) fun i H' x H'' hi' _ y => ?_
          obtain ⟨t, g1, g2⟩ := rr.get' y.2
          exact ⟨t, g1, .inl ⟨y.1, g2⟩⟩
  · -- range(n)
    split at h
    · obtain ⟨h1, h2⟩ := and2 h
      obtain ⟨h1, h3⟩ := and2 h1
      obtain ⟨rfl, g1, g2⟩ := blB_ok C h1
      have hl := of_decide_eq_true h2
      obtain ⟨y, rfl⟩ := List.length_eq_one_iff.mp hl
      have pa := hPA _ h3
      obtain ⟨n, h4, h5, rfl⟩ := items_rg1 hi
      have hs : starEach [y] X.env = [(false, eval y X.env)] := by
        cases its with
        | nil => exact nomatch h3
        | cons _ _ =>
          simp only [chks] at h3
          exact star_cons (by simpa using (and2 (and2 h3).1).1)
      refine (pi_range1 (tg := tge) g1 g2 pa hs).run pins s0 σ H R0 I ⟨F, G, θ, s, vs, s1, R, e, fun ws H1 F1 θ1 R1 l1 p1 r1 => ?_⟩
      have rh := R1.reads r1 hp
      rw [h4] at rh
      cases rh with
      | cons q1 q2 =>
        cases q2
        cases intH q1
        refine ⟨n, rfl, h5.1, h5.2, kk _ H1 F1 θ1 R1 l1 p1 ?_⟩
        rw [rgT_len, Int.sub_zero]
        refine (walk_range (lo := 0)).mono (fun _ _ => trivial) fun i H' x H'' hi' _ y => ?_
        obtain ⟨y1, rfl⟩ := y
        exact ⟨_, rgT_get (by omega), .inl ⟨y1, .int _⟩⟩
    · cases h
  · -- range(a, b)
    split at h
    · obtain ⟨h1, h2⟩ := and2 h
      obtain ⟨h1, h3⟩ := and2 h1
      obtain ⟨rfl, g1, g2⟩ := blB_ok C h1
      have hl := of_decide_eq_true h2
      obtain ⟨y, z, rfl⟩ := len2 hl
      have pa := hPA _ h3
      obtain ⟨n, n', h4, h5, rfl⟩ := items_rg2 hi
      obtain ⟨hs, hs2⟩ : starEach [y, z] X.env = [(false, eval y X.env), (false, eval z X.env)] ∧ starEach [z] X.env = [(false, eval z X.env)] := by
        cases its with
        | nil => exact nomatch h3
        | cons _ es =>
          simp only [chks] at h3
          obtain ⟨h6, h7⟩ := and2 h3
          cases es with
          | nil => exact nomatch h7
          | cons _ _ =>
            simp only [chks] at h7
            have z1 : starEach [z] X.env = [(false, eval z X.env)] := star_cons (by simpa using (and2 (and2 h7).1).1)
            exact ⟨by rw [star_cons (by simpa using (and2 h6).1), z1], z1⟩
      refine (pi_range2 (tg := tge) g1 g2 pa hs hs2).run pins s0 σ H R0 I ⟨F, G, θ, s, vs, s1, R, e, fun ws H1 F1 θ1 R1 l1 p1 r1 => ?_⟩
      have rh := R1.reads r1 hp
      rw [h4] at rh
      cases rh with
      | cons q1 q2 =>
        cases q2 with
        | cons q2 q3 =>
          cases q3
          cases intH q1
          cases intH q2
          refine ⟨n, n', rfl, h5, kk _ H1 F1 θ1 R1 l1 p1 ?_⟩
          rw [rgT_len]
          refine (walk_range (lo := n)).mono (fun _ _ => trivial) fun i H' x H'' hi' _ y => ?_
          obtain ⟨y1, rfl⟩ := y
          exact ⟨_, rgT_get hi', .inl ⟨y1, .int _⟩⟩
    · cases h
  · -- enumerate
    obtain ⟨htp, h⟩ := and2 h
    obtain ⟨es, kk', pos, rfl⟩ := tgTup htp
    split at h
    · obtain ⟨h1, h2⟩ := and2 h
      obtain ⟨h1, h3⟩ := and2 h1
      obtain ⟨rfl, g1, g2⟩ := blB_ok C h1
      have hl := of_decide_eq_true h2
      obtain ⟨y, rfl⟩ := List.length_eq_one_iff.mp hl
      have pa := hPA _ h3
      obtain ⟨t, l, h4, h5, rfl⟩ := items_enum hi
      have hs : starEach [y] X.env = [(false, eval y X.env)] := by
        cases its with
        | nil => exact nomatch h3
        | cons _ _ =>
          simp only [chks] at h3
          exact star_cons (by simpa using (and2 (and2 h3).1).1)
      cases vs with
      | nil => cases h4
      | cons v0 vs =>
        rw [List.map_cons] at h4
        obtain ⟨h6, h7⟩ := List.cons.inj h4
        cases vs with
        | cons _ _ => cases h7
        | nil =>
          subst h6
          by_cases hT : isTupT (s1.deref v0) = true
          · refine (pi_enumT g1 g2 pa hs).run pins s0 σ H R0 I ⟨F, G, θ, s, _, s1, R, e, fun ws H1 F1 θ1 R1 l1 p1 r1 => ?_⟩
            cases r1 with
            | cons r1 r2 =>
              cases r2
              obtain ⟨a, ys, rfl, rr, st⟩ := R1.stable r1 h5
              have st' : ∀ H', FLe F1 H' → ([v0].all Tr.pure = true ∨ FLe (ownG s1 σ G H1) H') → SqT X.K H' a ys := fun H' f g => by have := st H' f (g.imp_left (by simp)); rw [if_pos hT] at this; exact this
              refine ⟨a, ys, rfl, st' H1 R1.m.fle (.inr R1.out.gle), kk _ H1 F1 θ1 R1 l1 p1 ?_⟩
              rw [enumT_len, ← rr.length]
              refine (walk_enumT (xs := ys)).mono (fun H' hh => st' H' hh.1 hh.2) fun i H' x H'' hi' _ y => ?_
              obtain ⟨T, x1, rfl, hT', rfl, y3⟩ := y
              obtain ⟨t1, g3, g4⟩ := rr.get' y3
              exact ⟨_, enumT_get g3, .inr ⟨T, _, _, hT', rfl, rfl, rfl, .cons (.int _) (.cons g4 .nil), two_le_line⟩⟩
          · refine (pi_enum g1 g2 pa hs).run pins s0 σ H R0 I ⟨F, G, θ, s, _, s1, R, e, fun ws H1 F1 θ1 R1 l1 p1 r1 => ?_⟩
            cases r1 with
            | cons r1 r2 =>
              cases r2
              obtain ⟨a, ys, rfl, rr, st⟩ := R1.stable r1 h5
              have st' : ∀ H', FLe F1 H' → ([v0].all Tr.pure = true ∨ FLe (ownG s1 σ G H1) H') → SqL X.K H' a ys := fun H' f g => by have := st H' f (g.imp_left (by simp)); rw [if_neg hT] at this; exact this
              refine ⟨a, ys, rfl, st' H1 R1.m.fle (.inr R1.out.gle), kk _ H1 F1 θ1 R1 l1 p1 ?_⟩
              rw [enumT_len, ← rr.length]
              refine (walk_enum (xs := ys)).mono (fun H' hh => st' H' hh.1 hh.2) fun i H' x H'' hi' _ y => ?_
              obtain ⟨T, x1, y1, rfl, hT', rfl, y2, y3⟩ := y
              cases y2
              obtain ⟨t1, g3, g4⟩ := rr.get' y3
              exact ⟨_, enumT_get g3, .inr ⟨T, _, _, hT', rfl, rfl, rfl, .cons (.int _) (.cons g4 .nil), two_le_line⟩⟩
    · cases h
  · -- zip
    obtain ⟨htp, h⟩ := and2 h
    obtain ⟨es, kk', pos, rfl⟩ := tgTup htp
    split at h
    · obtain ⟨h1, h2⟩ := and2 h
      obtain ⟨h1, h3⟩ := and2 h1
      obtain ⟨rfl, g1, g2⟩ := blB_ok C h1
      have hl := of_decide_eq_true h2
      obtain ⟨y, z, rfl⟩ := len2 hl
      have pa := hPA _ h3
      obtain ⟨t, u, l, m, h4, h5, h5', rfl, hsame⟩ := items_zip hi
      obtain ⟨hs, hs2⟩ : starEach [y, z] X.env = (false, eval y X.env) :: starEach [z] X.env ∧ starEach [z] X.env = [(false, eval z X.env)] := by
        cases its with
        | nil => exact nomatch h3
        | cons _ es =>
          simp only [chks] at h3
          obtain ⟨h6, h7⟩ := and2 h3
          cases es with
          | nil => exact nomatch h7
          | cons _ _ =>
            simp only [chks] at h7
            have z1 : starEach [z] X.env = [(false, eval z X.env)] := star_cons (by simpa using (and2 (and2 h7).1).1)
            exact ⟨star_cons (by simpa using (and2 h6).1), z1⟩
      cases vs with
      | nil => cases h4
      | cons v0 vs =>
        rw [List.map_cons] at h4
        obtain ⟨h6, h7⟩ := List.cons.inj h4
        cases vs with
        | nil => cases h7
        | cons v1 vs =>
          rw [List.map_cons] at h7
          obtain ⟨h10, h8⟩ := List.cons.inj h7
          cases vs with
          | cons _ _ => cases h8
          | nil =>
            subst h6 h10
            refine (RZ.pi_zipA g1 g2 pa hs (by rw [hs2]; rfl)).run pins s0 σ H R0 I ⟨F, G, θ, s, _, s1, R, e, fun ws H1 F1 θ1 R1 l1 p1 r1 => ?_⟩
            cases r1 with
            | cons r1 r2 =>
              cases r2 with
              | cons r2 r3 =>
                cases r3
                obtain ⟨a, ys, rfl, rr, st⟩ := R1.stable r1 h5
                obtain ⟨b, zs, rfl, rr', st2⟩ := R1.stable r2 h5'
                refine ⟨a, b, ys, zs, rfl, ?_⟩
                have yok : ∀ i H' x H'', i < min ys.length zs.length → YPair (fun i => ys[i]?) (fun i => zs[i]?) i H' x H'' → YOk (MX D.cl X) F1 θ1 (zipT l m) i H' x H'' := by
                  rintro i H' x H'' _ ⟨T, x1, y1, rfl, hT', rfl, y2, y3⟩
                  obtain ⟨t1, g3, g4⟩ := rr.get' y2
                  obtain ⟨t2, g5, g6⟩ := rr'.get' y3
                  exact ⟨_, zipT_get g3 g5, .inr ⟨T, _, _, hT', rfl, rfl, rfl, .cons g4 (.cons g6 .nil), two_le_line⟩⟩
                by_cases hT : isTupT (s1.deref v0) = true
                · have hT2 : isTupT (s1.deref v1) = true := hsame ▸ hT
                  have st' : ∀ H', FLe F1 H' ∧ ([v0, v1].all Tr.pure = true ∨ FLe (ownG s1 σ G H1) H') → SqT X.K H' a ys ∧ SqT X.K H' b zs := fun H' f => by
                    have z1 := st H' f.1 (f.2.imp_left (by simp; intro a _; exact a))
                    have z2 := st2 H' f.1 (f.2.imp_left (by simp))
                    rw [if_pos hT] at z1
                    rw [if_pos hT2] at z2
                    exact ⟨z1, z2⟩
                  obtain ⟨q1, q2⟩ := st' H1 ⟨R1.m.fle, .inr R1.out.gle⟩
                  refine .inr ⟨q1, q2, kk _ H1 F1 θ1 R1 l1 p1 ?_⟩
                  rw [zipT_len, ← rr.length, ← rr'.length]
                  refine ⟨fun i H' hi' hh => ?_, fun H' hh => ?_, fun i H' x H'' hi' hh yy => yok i H' x H'' hi' ?_⟩
                  · obtain ⟨w1, w2⟩ := st' H' hh
                    exact ⟨ys, zs, ys[i]'(by omega), zs[i]'(by omega), w1, w2, by simp, by simp⟩
                  · obtain ⟨w1, w2⟩ := st' H' hh
                    exact ⟨ys, zs, w1, w2, by omega⟩
                  · obtain ⟨w1, w2⟩ := st' H' hh
                    obtain ⟨T, x1, y1, e1, e2, e3, e4, e5⟩ := yy
                    exact ⟨T, x1, y1, e1, e2, e3, e4 ys w1, e5 zs w2⟩
                · have hT2 : ¬ isTupT (s1.deref v1) = true := hsame ▸ hT
                  have st' : ∀ H', FLe F1 H' ∧ ([v0, v1].all Tr.pure = true ∨ FLe (ownG s1 σ G H1) H') → SqL X.K H' a ys ∧ SqL X.K H' b zs := fun H' f => by
                    have z1 := st H' f.1 (f.2.imp_left (by simp; intro a _; exact a))
                    have z2 := st2 H' f.1 (f.2.imp_left (by simp))
                    rw [if_neg hT] at z1
                    rw [if_neg hT2] at z2
                    exact ⟨z1, z2⟩
                  obtain ⟨q1, q2⟩ := st' H1 ⟨R1.m.fle, .inr R1.out.gle⟩
                  refine .inl ⟨q1, q2, kk _ H1 F1 θ1 R1 l1 p1 ?_⟩
                  rw [zipT_len, ← rr.length, ← rr'.length]
                  exact (walk_zip (xs := ys) (ys := zs) rfl).mono (fun H' hh => st' H' hh) fun i H' x H'' hi' _ y => yok i H' x H'' hi' y
    · cases h
  · cases h
end
end Ev
/-! Soundness of expressions. -/
namespace Ev
open PySem PySem.Spec L2
open PyProof.Rows hiding St

def isBo : Expr → Bool
  | .BoolOp .. => true
  | _ => false
section
variable {D : Ds} {gc : Nat → Option Tr} {cf : CF} {X : Cx}
/-- what is shown of an expression -/
structure Snd (D : Ds) (gc : Nat → Option Tr) (cf : CF) (X : Cx) (e : Ex) (ex : Expr) : Prop where
  pe : PE X ex (RE gc cf (MX D.cl X) e)
  pt : PT X ex (RT gc cf (MX D.cl X) e)
  pw : isBo ex = true → PW X ex (RT gc cf (MX D.cl X) e)
theorem Snd.mk1 {e : Ex} {ex : Expr} (h : PE X ex (RE gc cf (MX D.cl X) e)) (hb : isBo ex = false) (he : ∀ whole, isTrue ex X.env whole = (do let v ← whole; standAt ex.pos; holding [v] (truthy v))) (ev : ∀ s, evX gc cf e true s = fin true (evX gc cf e false s)) : Snd D gc cf X e ex :=
  ⟨h, pt_of h he ev, fun z => by rw [hb] at z; cases z⟩
theorem fin_bl {r : Rs Tr} {b : Bool} {s' : Sta} (h : fin true r = .ok (.bl b) s') : ∃ x, r = .ok x s' ∧ truth (s'.deref x) = some b := by
  obtain ⟨x, s1, e2, e3⟩ := Rs.bind_eq h
  obtain ⟨e4, rfl⟩ := Rs.of_eq e3
  obtain ⟨b', e5, e6⟩ := map_some e4
  injection e6 with e6
  subst e6
  exact ⟨x, e2, e5⟩
theorem opC2_ok {o : Cp} {x y : Tr} {b : Bool} (h : opC2 o x y = some b) : x.pure = true ∧ y.pure = true ∧ opC o x y = some b := by
  unfold opC2 at h
  split at h
  · rename_i hh
    obtain ⟨h1, h2⟩ := and2 hh
    exact ⟨h1, h2, h⟩
  · cases h
variable {K : Mx} {F F' G H : Hp} {θ θ' : List Addr} {s : Sta} {σ : St}
theorem sBin {sc : Scope} (C : Cxt D gc cf X sc) {o : Op} {a b : Ex} {x y : Expr} {pos : Pos} (ha : PE X x (RE gc cf (MX D.cl X) a)) (hb : PE X y (RE gc cf (MX D.cl X) b)) : PE X (.BinOp x o.py y pos) (RE gc cf (MX D.cl X) (.bin o a b)) := by
  refine ⟨fun pins s0 σ H Q I h => ?_⟩
  obtain ⟨F, G, θ, s, t, s', R, ev, k⟩ := h
  simp only [evX, fin] at ev
  obtain ⟨x1, s1, e1, ev⟩ := Rs.bind_eq ev
  obtain ⟨y1, s2, e2, ev⟩ := Rs.bind_eq ev
  obtain ⟨e3, rfl⟩ := Rs.of_eq ev
  obtain ⟨n1, n2⟩ := opB_nb e3
  exact (pe_op (opB_ok (cl := D.cl) e3) ha hb).run pins s0 σ H Q I ⟨F, G, θ, s, x1, s1, R, e1, fun v H1 F1 θ1 R1 l1 p1 r1 => ⟨F1, G, θ1, s1, y1, s2, R1, e2, fun w H2 F2 θ2 R2 l2 p2 r2 =>
    ⟨F2, G, θ2, s2, σ, R2, R2.read (r1.mono l2 p2) n1, R2.read r2 n2, fun u H' F' R' l' r' => k u H' F' θ2 R' (l1.trans (l2.trans l')) (p1.trans p2) (RpV.of r')⟩⟩⟩
theorem sCmp {sc : Scope} (C : Cxt D gc cf X sc) {o : Cp} {a b : Ex} {x y : Expr} {pos : Pos} (ha : PE X x (RE gc cf (MX D.cl X) a)) (hb : PE X y (RE gc cf (MX D.cl X) b)) (hm : behindInMarks o.py y = false) : Snd D gc cf X (.cmp o a b) (.Compare x [o.py] [y] pos) := by
  have main : ∀ {md : Bool} {s s' : Sta} {t : Tr}, evX gc cf (.cmp o a b) md s = .ok t s' → ∃ x1 s1 y1 c, evX gc cf a false s = .ok x1 s1 ∧ evX gc cf b false s1 = .ok y1 s' ∧ opC2 o (s'.deref x1) (s'.deref y1) = some c ∧ t = .bl c := by
    intro md s s' t ev
    have e0 : ∃ c, ((evX gc cf a false s).bind fun x s1 => (evX gc cf b false s1).bind fun y s2 => Rs.of ((opC2 o (s2.deref x) (s2.deref y)).map Tr.bl) s2) = .ok (.bl c) s' ∧ t = .bl c := by
      have e9 : ∀ {t s'}, ((evX gc cf a false s).bind fun x s1 => (evX gc cf b false s1).bind fun y s2 => Rs.of ((opC2 o (s2.deref x) (s2.deref y)).map Tr.bl) s2) = .ok t s' → ∃ c, t = .bl c := by
        intro t s' ev
        obtain ⟨x1, s1, e1, ev⟩ := Rs.bind_eq ev
        obtain ⟨y1, s2, e2, ev⟩ := Rs.bind_eq ev
        obtain ⟨e3, rfl⟩ := Rs.of_eq ev
        obtain ⟨c, _, rfl⟩ := map_some e3
        exact ⟨c, rfl⟩
      cases md with
      | false =>
        simp only [evX, fin] at ev
        obtain ⟨c, rfl⟩ := e9 ev
        exact ⟨c, ev, rfl⟩
      | true =>
        simp only [evX] at ev
        obtain ⟨x, s1, e2, e3⟩ := Rs.bind_eq ev
        obtain ⟨e4, rfl⟩ := Rs.of_eq e3
        obtain ⟨c, rfl⟩ := e9 e2
        obtain ⟨b', e5, rfl⟩ := map_some e4
        cases e5
        exact ⟨_, e2, rfl⟩
    obtain ⟨c, ev2, rfl⟩ := e0
    obtain ⟨x1, s1, e1, ev3⟩ := Rs.bind_eq ev2
    obtain ⟨y1, s2, e2, ev4⟩ := Rs.bind_eq ev3
    obtain ⟨e3, rfl⟩ := Rs.of_eq ev4
    obtain ⟨c', e4, e5⟩ := map_some e3
    injection e5 with e5
    subst e5
    exact ⟨x1, s1, y1, _, e1, e2, e4, rfl⟩
  refine ⟨⟨fun pins s0 σ H Q I h => ?_⟩, ⟨fun pins s0 σ H Q I h => ?_⟩, fun z => nomatch z⟩
  · obtain ⟨F, G, θ, s, t, s', R, ev, k⟩ := h
    obtain ⟨x1, s1, y1, c, e1, e2, e3, rfl⟩ := main ev
    obtain ⟨n1, n2, e3⟩ := opC2_ok e3
    exact (pe_cmpR (opC_ok (cl := D.cl) C.u64 e3) ha hb hm).run pins s0 σ H Q I ⟨F, G, θ, s, x1, s1, R, e1, fun v H1 F1 θ1 R1 l1 p1 r1 => ⟨F1, G, θ1, s1, y1, s', R1, e2, fun w H2 F2 θ2 R2 l2 p2 r2 =>
      ⟨F2, θ2, R2.m.fle, R2.read (r1.mono l2 p2) n1, R2.read r2 n2, k _ H2 F2 θ2 R2 (l1.trans l2) (p1.trans p2) (RpV.of (.bl c))⟩⟩⟩
  · obtain ⟨F, G, θ, s, b0, s', R, ev, k⟩ := h
    obtain ⟨x1, s1, y1, c, e1, e2, e3, e9⟩ := main ev
    cases e9
    obtain ⟨n1, n2, e3⟩ := opC2_ok e3
    exact (pt_cmpR (opC_ok (cl := D.cl) C.u64 e3) ha hb hm).run pins s0 σ H Q I ⟨F, G, θ, s, x1, s1, R, e1, fun v H1 F1 θ1 R1 l1 p1 r1 => ⟨F1, G, θ1, s1, y1, s', R1, e2, fun w H2 F2 θ2 R2 l2 p2 r2 =>
      ⟨F2, θ2, R2.m.fle, R2.read (r1.mono l2 p2) n1, R2.read r2 n2, _, rfl, k H2 F2 θ2 R2 (l1.trans l2) (p1.trans p2)⟩⟩⟩
theorem sChain {sc : Scope} (C : Cxt D gc cf X sc) {o p : Cp} {a b c : Ex} {x y z : Expr} {pos : Pos} (ha : PE X x (RE gc cf (MX D.cl X) a)) (hb : PE X y (RE gc cf (MX D.cl X) b)) (hc : PE X z (RE gc cf (MX D.cl X) c)) (hm : lastMarks [o.py, p.py] [y, z] = false) : Snd D gc cf X (.chain o p a b c) (.Compare x [o.py, p.py] [y, z] pos) := by
  have e9 : ∀ {s t s'}, evX gc cf (.chain o p a b c) false s = .ok t s' → ∃ r, t = .bl r := by
    intro s t s' ev
    simp only [evX, fin] at ev
    obtain ⟨x1, s1, e1, ev⟩ := Rs.bind_eq ev
    obtain ⟨y1, s2, e2, ev⟩ := Rs.bind_eq ev
    split at ev
    · obtain ⟨z1, s3, e3, ev⟩ := Rs.bind_eq ev
      obtain ⟨e3, rfl⟩ := Rs.of_eq ev
      obtain ⟨c, _, rfl⟩ := map_some e3
      exact ⟨c, rfl⟩
    · cases ev; exact ⟨false, rfl⟩
    · cases ev
  have e10 : ∀ {s : Sta} {b0 : Bool} {s' : Sta}, evX gc cf (.chain o p a b c) true s = .ok (.bl b0) s' → evX gc cf (.chain o p a b c) false s = .ok (.bl b0) s' := by
    intro s b0 s' ev
    have ev' : fin true (evX gc cf (.chain o p a b c) false s) = .ok (.bl b0) s' := by
      simp only [evX, fin] at ev ⊢
      exact ev
    obtain ⟨x, h1, h2⟩ := fin_bl ev'
    obtain ⟨r, rfl⟩ := e9 h1
    cases h2
    exact h1
  have rd : ∀ {σ : St} {H : Hp} {Q : VK}, RE gc cf (MX D.cl X) (.chain o p a b c) σ H Q → (∃ r r', OpR X (compareOp o.py) r ∧ OpR X (compareOp p.py) r' ∧ tChain r r' (RE gc cf (MX D.cl X) a) (RE gc cf (MX D.cl X) b) (RE gc cf (MX D.cl X) c) σ H Q) := by
    intro σ H Q h
    obtain ⟨F, G, θ, s, t, s', R, ev, k⟩ := h
    simp only [evX, fin] at ev
    obtain ⟨x1, s1, e1, ev⟩ := Rs.bind_eq ev
    obtain ⟨y1, s2, e2, ev⟩ := Rs.bind_eq ev
    split at ev
    · rename_i e3
      obtain ⟨z1, s3, e4, ev⟩ := Rs.bind_eq ev
      obtain ⟨e5, rfl⟩ := Rs.of_eq ev
      obtain ⟨d, e6, rfl⟩ := map_some e5
      obtain ⟨n1, n2, e3⟩ := opC2_ok e3
      obtain ⟨n3, n4, e6⟩ := opC2_ok e6
      refine ⟨_, _, opC_ok (cl := D.cl) C.u64 e3, opC_ok (cl := D.cl) C.u64 e6, F, G, θ, s, x1, s1, R, e1, fun v H1 F1 θ1 R1 l1 p1 r1 => ⟨F1, G, θ1, s1, y1, s2, R1, e2, fun w H2 F2 θ2 R2 l2 p2 r2 => ?_⟩⟩
      refine ⟨F2, θ2, R2.m.fle, R2.read (r1.mono l2 p2) n1, R2.read r2 n2, true, rfl, ?_⟩
      rw [if_pos rfl]
      exact ⟨F2, G, θ2, s2, z1, s3, R2, e4, fun u H3 F3 θ3 R3 l3 p3 r3 => ⟨F3, θ3, R3.m.fle, R3.read (r2.mono l3 p3) n3, R3.read r3 n4, k _ H3 F3 θ3 R3 (l1.trans (l2.trans l3)) (p1.trans (p2.trans p3)) (RpV.of (.bl _))⟩⟩
    · rename_i e3
      cases ev
      obtain ⟨n1, n2, e3⟩ := opC2_ok e3
      refine ⟨_, fun _ _ _ _ => False, opC_ok (cl := D.cl) C.u64 e3, fun _ _ _ _ _ _ _ _ _ _ _ _ z => z.elim, F, G, θ, s, x1, s1, R, e1, fun v H1 F1 θ1 R1 l1 p1 r1 => ⟨F1, G, θ1, s1, y1, _, R1, e2, fun w H2 F2 θ2 R2 l2 p2 r2 => ?_⟩⟩
      refine ⟨F2, θ2, R2.m.fle, R2.read (r1.mono l2 p2) n1, R2.read r2 n2, false, rfl, ?_⟩
      rw [if_neg Bool.false_ne_true]
      exact k _ H2 F2 θ2 R2 (l1.trans l2) (p1.trans p2) (RpV.of (.bl _))
    · cases ev
  refine ⟨⟨fun pins s0 σ H Q I h => ?_⟩, ⟨fun pins s0 σ H Q I h => ?_⟩, fun z => nomatch z⟩
  · obtain ⟨r, r', o1, o2, h⟩ := rd h
    exact (pe_chain o1 o2 ha hb hc hm).run pins s0 σ H Q I h
  · obtain ⟨F, G, θ, s, b0, s', R, ev, k⟩ := h
    obtain ⟨r, r', o1, o2, h⟩ := rd (Q := fun v H' => ∃ c, v = .bl c ∧ Q c H') ⟨F, G, θ, s, _, s', R, e10 ev, fun v H' F' θ' R' l p rr => by
      cases (show Rp _ _ _ _ _ from rr)
      exact ⟨b0, rfl, k H' F' θ' R' l p⟩⟩
    exact (pt_chain o1 o2 ha hb hc hm).run pins s0 σ H Q I h
end
end Ev
/-! Soundness of expressions, the theorem. -/
namespace Ev
open PySem PySem.Spec L2
open PyProof.Rows hiding St
section
variable {D : Ds} {gc : Nat → Option Tr} {cf : CF} {X : Cx} {K : Mx} {F F' G H : Hp} {θ θ' : List Addr} {s : Sta} {σ : St}
/-- the result is a truth value -/
theorem bl_only {r : Rs Tr} {f : Sta → Rs Tr} {g : Sta → Rs Tr} {t : Tr} {s' : Sta} (h : (r.bind fun x s1 => match x with
    | .bl true => f s1
    | .bl false => g s1
    | _ => .no) = .ok t s') : ∃ b s1, r = .ok (.bl b) s1 ∧ (if b = true then f s1 else g s1) = .ok t s' := by
  obtain ⟨x, s1, e1, e2⟩ := Rs.bind_eq h
  cases x with
  | bl b => cases b <;> exact ⟨_, s1, e1, e2⟩
  | _ => cases e2
theorem sAnd {a b : Ex} {x y : Expr} {r : List Expr} {pos : Pos} (ha : Snd D gc cf X a x) (hb1 : r = [] → Snd D gc cf X b y) (hb2 : r ≠ [] → Snd D gc cf X b (.BoolOp .And (y :: r) pos)) : Snd D gc cf X (.and_ a b) (.BoolOp .And (x :: y :: r) pos) := by
  have pe2 : PE X (.BoolOp .And (y :: r) pos) (RE gc cf (MX D.cl X) b) := by
    cases r with
    | nil => exact pe_one (hb1 rfl).pe
    | cons z w => exact (hb2 (by simp)).pe
  have pw2 : PW X (.BoolOp .And (y :: r) pos) (RT gc cf (MX D.cl X) b) := by
    cases r with
    | nil => exact pw_and1 (hb1 rfl).pt
    | cons z w => exact (hb2 (by simp)).pw rfl
  have pw : PW X (.BoolOp .And (x :: y :: r) pos) (RT gc cf (MX D.cl X) (.and_ a b)) := by
    refine ⟨fun wh pins s0 σ H Q I h => ?_⟩
    obtain ⟨F, G, θ, s, b0, s', R, ev, k⟩ := h
    simp only [evX] at ev
    obtain ⟨c, s1, e1, e2⟩ := bl_only ev
    refine (pw_and ha.pt pw2).run wh pins s0 σ H Q I ⟨F, G, θ, s, c, s1, R, e1, fun H1 F1 θ1 R1 l1 p1 => ?_⟩
    cases c with
    | true =>
      rw [if_pos rfl] at e2 ⊢
      exact ⟨F1, G, θ1, s1, b0, s', R1, e2, fun H2 F2 θ2 R2 l2 p2 => k H2 F2 θ2 R2 (l1.trans l2) (p1.trans p2)⟩
    | false =>
      rw [if_neg Bool.false_ne_true] at e2 ⊢
      cases e2
      exact k H1 F1 θ1 R1 l1 p1
  refine ⟨⟨fun pins s0 σ H Q I h => ?_⟩, pw.pt, fun _ => pw⟩
  obtain ⟨F, G, θ, s, t, s', R, ev, k⟩ := h
  simp only [evX] at ev
  obtain ⟨c, s1, e1, e2⟩ := bl_only ev
  refine (pe_and ha.pe pe2).run pins s0 σ H Q I ⟨F, G, θ, s, .bl c, s1, R, e1, fun v H1 F1 θ1 R1 l1 p1 r1 => ?_⟩
  cases (show Rp _ _ _ _ _ from r1)
  refine ⟨c, rfl, ?_⟩
  cases c with
  | true =>
    rw [if_pos rfl] at e2 ⊢
    exact ⟨F1, G, θ1, s1, t, s', R1, e2, fun w H2 F2 θ2 R2 l2 p2 r2 => k w H2 F2 θ2 R2 (l1.trans l2) (p1.trans p2) r2⟩
  | false =>
    rw [if_neg Bool.false_ne_true] at e2 ⊢
    cases e2
    exact k _ H1 F1 θ1 R1 l1 p1 (RpV.of (.bl false))
theorem bl_only' {r : Rs Tr} {f : Sta → Rs Tr} {g : Sta → Rs Tr} {t : Tr} {s' : Sta} (h : (r.bind fun x s1 => match x with
    | .bl false => f s1
    | .bl true => g s1
    | _ => .no) = .ok t s') : ∃ b s1, r = .ok (.bl b) s1 ∧ (if b = true then g s1 else f s1) = .ok t s' := by
  obtain ⟨x, s1, e1, e2⟩ := Rs.bind_eq h
  cases x with
  | bl b => cases b <;> exact ⟨_, s1, e1, e2⟩
  | _ => cases e2
theorem sOr {a b : Ex} {x y : Expr} {r : List Expr} {pos : Pos} (ha : Snd D gc cf X a x) (hb1 : r = [] → Snd D gc cf X b y) (hb2 : r ≠ [] → Snd D gc cf X b (.BoolOp .Or (y :: r) pos)) : Snd D gc cf X (.or_ a b) (.BoolOp .Or (x :: y :: r) pos) := by
  have pe2 : PE X (.BoolOp .Or (y :: r) pos) (RE gc cf (MX D.cl X) b) := by
    cases r with
    | nil => exact pe_one (hb1 rfl).pe
    | cons z w => exact (hb2 (by simp)).pe
  have pw2 : PW X (.BoolOp .Or (y :: r) pos) (RT gc cf (MX D.cl X) b) := by
    cases r with
    | nil => exact pw_or1 (hb1 rfl).pt
    | cons z w => exact (hb2 (by simp)).pw rfl
  have pw : PW X (.BoolOp .Or (x :: y :: r) pos) (RT gc cf (MX D.cl X) (.or_ a b)) := by
    refine ⟨fun wh pins s0 σ H Q I h => ?_⟩
    obtain ⟨F, G, θ, s, b0, s', R, ev, k⟩ := h
    simp only [evX] at ev
    obtain ⟨c, s1, e1, e2⟩ := bl_only' ev
    refine (pw_or ha.pt pw2).run wh pins s0 σ H Q I ⟨F, G, θ, s, c, s1, R, e1, fun H1 F1 θ1 R1 l1 p1 => ?_⟩
    cases c with
    | false =>
      rw [if_neg Bool.false_ne_true] at e2 ⊢
      exact ⟨F1, G, θ1, s1, b0, s', R1, e2, fun H2 F2 θ2 R2 l2 p2 => k H2 F2 θ2 R2 (l1.trans l2) (p1.trans p2)⟩
    | true =>
      rw [if_pos rfl] at e2 ⊢
      cases e2
      exact k H1 F1 θ1 R1 l1 p1
  refine ⟨⟨fun pins s0 σ H Q I h => ?_⟩, pw.pt, fun _ => pw⟩
  obtain ⟨F, G, θ, s, t, s', R, ev, k⟩ := h
  simp only [evX] at ev
  obtain ⟨c, s1, e1, e2⟩ := bl_only' ev
  refine (pe_or ha.pe pe2).run pins s0 σ H Q I ⟨F, G, θ, s, .bl c, s1, R, e1, fun v H1 F1 θ1 R1 l1 p1 r1 => ?_⟩
  cases (show Rp _ _ _ _ _ from r1)
  refine ⟨c, rfl, ?_⟩
  cases c with
  | false =>
    rw [if_neg Bool.false_ne_true] at e2 ⊢
    exact ⟨F1, G, θ1, s1, t, s', R1, e2, fun w H2 F2 θ2 R2 l2 p2 r2 => k w H2 F2 θ2 R2 (l1.trans l2) (p1.trans p2) r2⟩
  | true =>
    rw [if_pos rfl] at e2 ⊢
    cases e2
    exact k _ H1 F1 θ1 R1 l1 p1 (RpV.of (.bl true))
theorem bl_one {r : Rs Tr} {f : Bool → Sta → Rs Tr} {t : Tr} {s' : Sta} (h : (r.bind fun x s1 => match x with
    | .bl b => f b s1
    | _ => .no) = .ok t s') : ∃ b s1, r = .ok (.bl b) s1 ∧ f b s1 = .ok t s' := by
  obtain ⟨x, s1, e1, e2⟩ := Rs.bind_eq h
  cases x with
  | bl b => exact ⟨b, s1, e1, e2⟩
  | _ => cases e2
theorem sNot {a : Ex} {x : Expr} {pos : Pos} (ha : Snd D gc cf X a x) : Snd D gc cf X (.not_ a) (.UnaryOp .Not x pos) := by
  refine ⟨⟨fun pins s0 σ H Q I h => ?_⟩, ⟨fun pins s0 σ H Q I h => ?_⟩, fun z => nomatch z⟩
  · obtain ⟨F, G, θ, s, t, s', R, ev, k⟩ := h
    simp only [evX] at ev
    obtain ⟨c, s1, e1, e2⟩ := bl_one ev
    cases e2
    obtain ⟨x1, e3, e4⟩ := fin_bl e1
    exact (pe_notT ha.pe).run pins s0 σ H Q I ⟨F, G, θ, s, x1, _, R, e3, fun v H1 F1 θ1 R1 l1 p1 r1 => ⟨c, truth_ok R1.m.fle e4 (R1.read r1 (truth_nb e4)), k _ H1 F1 θ1 R1 l1 p1 (RpV.of (.bl _))⟩⟩
  · obtain ⟨F, G, θ, s, b0, s', R, ev, k⟩ := h
    simp only [evX] at ev
    obtain ⟨c, s1, e1, e2⟩ := bl_one ev
    cases e2
    exact (pt_not ha.pt).run pins s0 σ H Q I ⟨F, G, θ, s, c, _, R, e1, fun H1 F1 θ1 R1 l1 p1 => k H1 F1 θ1 R1 l1 p1⟩
theorem sIte {c a b : Ex} {z x y : Expr} {pos : Pos} (hc : Snd D gc cf X c z) (ha : Snd D gc cf X a x) (hb : Snd D gc cf X b y) : Snd D gc cf X (.ite c a b) (.IfExp z x y pos) := by
  refine ⟨⟨fun pins s0 σ H Q I h => ?_⟩, ⟨fun pins s0 σ H Q I h => ?_⟩, fun z => nomatch z⟩
  · obtain ⟨F, G, θ, s, t, s', R, ev, k⟩ := h
    simp only [evX] at ev
    obtain ⟨c0, s1, e1, e2⟩ := bl_only ev
    refine (pe_ifExp hc.pt ha.pe hb.pe).run pins s0 σ H Q I ⟨F, G, θ, s, c0, s1, R, e1, fun H1 F1 θ1 R1 l1 p1 => ?_⟩
    cases c0 with
    | true => exact ⟨F1, G, θ1, s1, t, s', R1, e2, fun w H2 F2 θ2 R2 l2 p2 r2 => k w H2 F2 θ2 R2 (l1.trans l2) (p1.trans p2) r2⟩
    | false => exact ⟨F1, G, θ1, s1, t, s', R1, e2, fun w H2 F2 θ2 R2 l2 p2 r2 => k w H2 F2 θ2 R2 (l1.trans l2) (p1.trans p2) r2⟩
  · obtain ⟨F, G, θ, s, t, s', R, ev, k⟩ := h
    simp only [evX] at ev
    obtain ⟨c0, s1, e1, e2⟩ := bl_only ev
    refine isTrue_IfExp (thn (hc.pt.run pins s0 σ H (fun d H1 => d = c0 ∧ ∃ F1 θ1, Rel (MX D.cl X) F1 G θ1 s1 σ H1 ∧ FLe F F1 ∧ θ <+: θ1) I ⟨F, G, θ, s, c0, s1, R, e1, fun H1 F1 θ1 R1 l1 p1 => ⟨rfl, F1, θ1, R1, l1, p1⟩⟩) fun d s2 hd => ?_)
    obtain ⟨H1, I1, hd, F1, θ1, R1, l1, p1⟩ := hd
    subst hd
    cases d with
    | true => exact ha.pt.run pins s2 σ H1 Q I1 ⟨F1, G, θ1, s1, t, s', R1, e2, fun H2 F2 θ2 R2 l2 p2 => k H2 F2 θ2 R2 (l1.trans l2) (p1.trans p2)⟩
    | false => exact hb.pt.run pins s2 σ H1 Q I1 ⟨F1, G, θ1, s1, t, s', R1, e2, fun H2 F2 θ2 R2 l2 p2 => k H2 F2 θ2 R2 (l1.trans l2) (p1.trans p2)⟩
theorem sSlot {i : Nat} {x : Str} {pos : Pos} (hN : X.N[i]? = some x) (hv : Vis X.env.scope x) (hk : okN x = true) : Snd D gc cf X (.var i) (.Name x pos) := by
  obtain ⟨k1, k2⟩ := okN_ok hk
  refine Snd.mk1 ⟨fun pins s0 σ H Q I h => ?_⟩ rfl (fun _ => rfl) (fun s => by simp only [evX, fin])
  obtain ⟨F, G, θ, s, t, s', R, ev, k⟩ := h
  simp only [evX, fin] at ev
  have pe := pe_var (X := X) (i := i) (pos := pos) hN hv k1 k2
  split at ev
  · rename_i t' e
    cases ev
    obtain ⟨v, e1, q⟩ := R.slot i _ e
    exact pe.run pins s0 σ H Q I ⟨v, e1, k v H F θ R (FLe.refl F) (List.prefix_refl _) (RpV.of q)⟩
  · rename_i l e
    cases ev
    obtain ⟨a, xs, e1, q⟩ := R.slot i _ e
    exact pe.run pins s0 σ H Q I ⟨_, e1, k _ H F θ R (FLe.refl F) (List.prefix_refl _) e1⟩
  · cases ev
theorem sMv {i : Nat} {x : Str} {pos : Pos} (hN : X.N[i]? = some x) (hv : Vis X.env.scope x) (hk : okN x = true) : Snd D gc cf X (.mv i) (.Name x pos) := by
  obtain ⟨k1, k2⟩ := okN_ok hk
  refine Snd.mk1 ⟨fun pins s0 σ H Q I h => ?_⟩ rfl (fun _ => rfl) (fun s => by simp only [evX, fin])
  obtain ⟨F, G, θ, s, t, s', R, ev, k⟩ := h
  simp only [evX, fin] at ev
  have pe := pe_var (X := X) (i := i) (pos := pos) hN hv k1 k2
  split at ev
  · rename_i l e
    cases ev
    obtain ⟨a, xs, e1, h, f, g, t, q⟩ := R.slot i _ e
    exact pe.run pins s0 σ H Q I ⟨_, e1, k _ H _ θ (R.freeze e e1 h q) (FLe.upd1 f) (List.prefix_refl _) (RpV.of ((q.mono (FLe.upd1 f) (List.prefix_refl _)).rp upd_same))⟩
  · cases ev
theorem sConst {t : Tr} {v : V} {e : Ex} {ex : Expr} (hp : PE X ex (tC v)) (hr : ∀ F θ, Rp (MX D.cl X) F θ t v) (he : ∀ s, evX gc cf e false s = .ok t s) (hb : isBo ex = false) (hi : ∀ whole, isTrue ex X.env whole = (do let v ← whole; standAt ex.pos; holding [v] (truthy v))) (ev : ∀ s, evX gc cf e true s = fin true (evX gc cf e false s)) : Snd D gc cf X e ex := by
  refine Snd.mk1 ⟨fun pins s0 σ H Q I h => ?_⟩ hb hi ev
  obtain ⟨F, G, θ, s, t, s', R, e1, k⟩ := h
  rw [he] at e1
  cases e1
  exact hp.run pins s0 σ H Q I (k v H F θ R (FLe.refl F) (List.prefix_refl _) (RpV.of (hr F θ)))
theorem sGl {sc : Scope} (C : Cxt D gc cf X sc) {k : Nat} {x : Str} {pos : Pos} (h : D.gls.lookup k = some x) (hg : Gl X x) (hk : okN x = true) : Snd D gc cf X (.gl k) (.Name x pos) := by
  obtain ⟨k1, k2⟩ := okN_ok hk
  refine Snd.mk1 ⟨fun pins s0 σ H Q I hh => ?_⟩ rfl (fun _ => rfl) (fun s => by simp only [evX, fin])
  obtain ⟨F, G, θ, s, t, s', R, ev, kk⟩ := hh
  simp only [evX, fin] at ev
  obtain ⟨e1, rfl⟩ := Rs.of_eq ev
  obtain ⟨v, u, hm, r, rp⟩ := C.gl k t x e1 h
  exact (pe_glob hg hm r k1).run pins s0 σ H Q I (kk v H F θ R (FLe.refl F) (List.prefix_refl _) (RpV.of (rp.mono (fun a o z => by cases z) (List.nil_prefix))))
/-- displays -/
theorem all_pure {ts : List Tr} {n : Nat} (h : (ts.all Tr.pure && decide (ts.length ≤ n)) = true) : ts.all Tr.pure = true ∧ ts.length ≤ n := by
  obtain ⟨h1, h2⟩ := and2 h
  exact ⟨h1, of_decide_eq_true h2⟩
theorem sTup {es : List Ex} {xs : List Expr} {kk : Nat} {pos : Pos} (h : PA X xs (RA gc cf (MX D.cl X) es)) : Snd D gc cf X (.tup es) (.Tuple xs kk pos) := by
  refine Snd.mk1 ⟨fun pins s0 σ H Q I hh => ?_⟩ rfl (fun _ => rfl) (fun s => by simp only [evX, fin])
  obtain ⟨F, G, θ, s, t, s', R, ev, k⟩ := hh
  simp only [evX, fin] at ev
  obtain ⟨ts, s1, e1, ev⟩ := Rs.bind_eq ev
  split at ev
  · rename_i hc
    obtain ⟨h1, h2⟩ := all_pure hc
    cases ev
    refine (pe_tup h).run pins s0 σ H Q I ⟨F, G, θ, s, ts, _, R, e1, fun vs H1 F1 θ1 R1 l1 p1 r1 => ?_⟩
    have r := r1.rps h1
    refine ⟨by rw [r.length]; exact h2, fun p np => ?_⟩
    have f := R1.m.fle.none np
    exact k _ _ _ θ1 (R1.newF np) (l1.trans (FLe.upd1 f)) p1 (RpV.of (.tup (SqT.of upd_same) (r.mono (FLe.upd1 f) (List.prefix_refl _))))
  · cases ev
theorem sLst {es : List Ex} {xs : List Expr} {pos : Pos} (h : PA X xs (RA gc cf (MX D.cl X) es)) : Snd D gc cf X (.lst es) (.List xs pos) := by
  refine Snd.mk1 ⟨fun pins s0 σ H Q I hh => ?_⟩ rfl (fun _ => rfl) (fun s => by simp only [evX, fin])
  obtain ⟨F, G, θ, s, t, s', R, ev, k⟩ := hh
  simp only [evX, fin] at ev
  obtain ⟨ts, s1, e1, ev⟩ := Rs.bind_eq ev
  split at ev
  · rename_i hc
    obtain ⟨h1, h2⟩ := all_pure hc
    cases ev
    refine (pe_lst h).run pins s0 σ H Q I ⟨F, G, θ, s, ts, _, R, e1, fun vs H1 F1 θ1 R1 l1 p1 r1 => ?_⟩
    have r := r1.rps h1
    refine ⟨by rw [r.length]; exact h2, fun p np => ?_⟩
    have f := R1.m.fle.none np
    exact k _ _ _ θ1 (R1.newF np) (l1.trans (FLe.upd1 f)) p1 (RpV.of (.lst upd_same (r.mono (FLe.upd1 f) (List.prefix_refl _))))
  · cases ev
theorem sShd {es : List Ex} {xs : List Expr} {pos : Pos} (h : PA X xs (RA gc cf (MX D.cl X) es)) : Snd D gc cf X (.shd es) (.List xs pos) := by
  refine Snd.mk1 ⟨fun pins s0 σ H Q I hh => ?_⟩ rfl (fun _ => rfl) (fun s => by simp only [evX, fin])
  obtain ⟨F, G, θ, s, t, s', R, ev, k⟩ := hh
  simp only [evX, fin] at ev
  obtain ⟨ts, s1, e1, ev⟩ := Rs.bind_eq ev
  split at ev
  · rename_i hc
    obtain ⟨h1, h2⟩ := all_pure hc
    cases ev
    refine (pe_lst h).run pins s0 σ H Q I ⟨F, G, θ, s, ts, s1, R, e1, fun vs H1 F1 θ1 R1 l1 p1 r1 => ?_⟩
    have r := r1.rps h1
    refine ⟨by rw [r.length]; exact h2, fun p np => ?_⟩
    have hl := R1.m.len
    refine k _ _ _ _ (R1.share (l := .lst ts) np ⟨vs, rfl, r⟩) l1 (p1.trans (List.prefix_append _ _)) (RpV.of (.ob ?_))
    rw [hl]
    simp
  · cases ev
theorem sNeg {a : Ex} {x : Expr} {pos : Pos} (ha : PE X x (RE gc cf (MX D.cl X) a)) : Snd D gc cf X (.neg a) (.UnaryOp .USub x pos) := by
  refine Snd.mk1 ⟨fun pins s0 σ H Q I hh => ?_⟩ rfl (fun _ => rfl) (fun s => by simp only [evX, fin])
  obtain ⟨F, G, θ, s, t, s', R, ev, k⟩ := hh
  simp only [evX, fin] at ev
  obtain ⟨x1, s1, e1, ev⟩ := Rs.bind_eq ev
  cases x1 with
  | int i =>
    cases ev
    refine (pe_un un_neg ha).run pins s0 σ H Q I ⟨F, G, θ, s, .int i, _, R, e1, fun v H1 F1 θ1 R1 l1 p1 r1 => ?_⟩
    cases (show Rp _ _ _ _ _ from r1)
    exact ⟨i, rfl, k _ H1 F1 θ1 R1 l1 p1 (RpV.of (.int _))⟩
  | _ => cases ev
theorem plainIx {y : Expr} (h : isSlice y = false) : PlainIx y := by
  intro o i
  cases y <;> first | rfl | (exact nomatch h)
theorem idxT_nb2 {x y t : Tr} (h : idxT x y = some t) : y.pure = true := by
  cases y with
  | bor i => cases x <;> simp [idxT, dgetT, keyT] at h
  | _ => rfl
theorem sIdx {sc : Scope} (C : Cxt D gc cf X sc) {a b : Ex} {x y : Expr} {pos : Pos} (ha : PE X x (RE gc cf (MX D.cl X) a)) (hb : PE X y (RE gc cf (MX D.cl X) b)) (hs : isSlice y = false) : Snd D gc cf X (.idx a b) (.Subscript x y pos) := by
  refine Snd.mk1 ⟨fun pins s0 σ H Q I hh => ?_⟩ rfl (fun _ => rfl) (fun s => by simp only [evX, fin])
  obtain ⟨F, G, θ, s, t, s', R, ev, k⟩ := hh
  simp only [evX, fin] at ev
  obtain ⟨x1, s1, e1, ev⟩ := Rs.bind_eq ev
  obtain ⟨y1, s2, e2, ev⟩ := Rs.bind_eq ev
  refine (pe_ix (ix_seq.or (ix_dict (by have := C.un; omega))) ha hb (plainIx hs)).run pins s0 σ H Q I ⟨F, G, θ, s, x1, s1, R, e1, fun v H1 F1 θ1 R1 l1 p1 r1 => ⟨F1, G, θ1, s1, y1, s2, R1, e2, fun w H2 F2 θ2 R2 l2 p2 r2 => ?_⟩⟩
  split at ev
  · rename_i n e3
    split at ev
    · rename_i l e4
      obtain ⟨e5, rfl⟩ := Rs.of_eq ev
      have rd := R2.read (r1.mono l2 p2) (by rw [e3]; rfl)
      rw [e3] at rd
      have rd' : Rp (MX D.cl X) F2 θ2 (.ob n) v := rd
      have py : y1.pure = true := by
        cases y1 <;> first | rfl | (simp only [idxT] at e5; cases e5)
      cases rd' with
      | ob hn =>
        obtain ⟨a', q1, q2, q3, zs, q4, q5⟩ := R2.m.ob n _ e4 (fun z => nomatch z)
        rw [hn] at q1
        cases q1
        obtain ⟨xs, rfl, q5⟩ := q5
        exact idxT_ok R2 e5 (show RpH (MX D.cl X) F2 θ2 H2 (.lst l) (.ref _) from ⟨_, xs, rfl, q4, q5⟩) (RpH.of R2.m.fle (r2.rp py)) fun u H' F' R' l' r' => k u H' F' θ2 R' (l1.trans (l2.trans l')) (p1.trans p2) (RpV.of r')
    · cases ev
  · obtain ⟨e5, rfl⟩ := Rs.of_eq ev
    exact idxT_ok R2 e5 (R2.read (r1.mono l2 p2) (idxT_nb e5)) (R2.read r2 (idxT_nb2 e5)) fun u H' F' R' l' r' => k u H' F' θ2 R' (l1.trans (l2.trans l')) (p1.trans p2) (RpV.of r')
theorem sOrV {a b : Ex} {x y : Expr} {r : List Expr} {pos : Pos} (ha : Snd D gc cf X a x) (hb1 : r = [] → Snd D gc cf X b y) (hb2 : r ≠ [] → Snd D gc cf X b (.BoolOp .Or (y :: r) pos)) : PE X (.BoolOp .Or (x :: y :: r) pos) (RE gc cf (MX D.cl X) (.orV a b)) := by
  have pe2 : PE X (.BoolOp .Or (y :: r) pos) (RE gc cf (MX D.cl X) b) := by
    cases r with
    | nil => exact pe_one (hb1 rfl).pe
    | cons z w => exact (hb2 (by simp)).pe
  refine ⟨fun pins s0 σ H Q I h => ?_⟩
  obtain ⟨F, G, θ, s, t, s', R, ev, k⟩ := h
  simp only [evX, fin] at ev
  obtain ⟨x1, s1, e1, ev⟩ := Rs.bind_eq ev
  refine (pe_orT ha.pe pe2).run pins s0 σ H Q I ⟨F, G, θ, s, x1, s1, R, e1, fun v H1 F1 θ1 R1 l1 p1 r1 => ?_⟩
  split at ev
  · rename_i e2
    cases ev
    refine ⟨true, truth_ok R1.m.fle e2 (R1.read r1 (truth_nb e2)), ?_⟩
    rw [if_pos rfl]
    exact k v H1 F1 θ1 R1 l1 p1 r1
  · rename_i e2
    refine ⟨false, truth_ok R1.m.fle e2 (R1.read r1 (truth_nb e2)), ?_⟩
    rw [if_neg Bool.false_ne_true]
    exact ⟨F1, G, θ1, s1, t, s', R1, ev, fun w H2 F2 θ2 R2 l2 p2 r2 => k w H2 F2 θ2 R2 (l1.trans l2) (p1.trans p2) r2⟩
  · cases ev
theorem attrBase {x : Expr} {f : Str} {env : Env} {w : Sem Value} (h : isCall x = false) : attributeBase x f env w = w := by
  cases x <;> first | rfl | (exact nomatch h)
theorem getK_fs {f : Str} : ∀ {fs : List (Str × V)} {l : List Tr} {t : Tr} {K : Mx} {F : Hp} {θ : List Addr}, Rps K F θ l (fs.map (·.2)) → getK f (fs.map (·.1)) l = some t → f ∈ fs.map (·.1) ∧ ∃ v, fs.lookup f = some v ∧ Rp K F θ t v
  | [], l, t, _, _, _, r, h => by simp only [List.map_nil, getK] at h; cases h
  | p :: fs, [], t, _, _, _, r, h => by cases r
  | p :: fs, x :: l, t, _, _, _, r, h => by
    rw [List.map_cons] at r h
    cases r with
    | cons r1 r2 =>
      obtain ⟨g, v⟩ := p
      simp only [getK] at h
      split at h
      · rename_i e
        have e' : g = f := e
        subst e'
        cases h
        exact ⟨by simp, v, by simp [List.lookup], r1⟩
      · rename_i e
        have e' : ¬ g = f := e
        obtain ⟨h1, w, h2, h3⟩ := getK_fs r2 h
        refine ⟨by rw [List.map_cons]; exact List.mem_cons_of_mem _ h1, w, ?_, h3⟩
        have hb : (f == g) = false := beq_eq_false_iff_ne.mpr (fun z => e' z.symm)
        simp only [List.lookup, hb]
        exact h2
theorem sFld {sc : Scope} (C : Cxt D gc cf X sc) {a : Ex} {x : Expr} {f : Str} {pos : Pos} (hf : f ∈ D.fl) (hx : isCall x = false) (ha : PE X x (RE gc cf (MX D.cl X) a)) : Snd D gc cf X (.fld a f) (.Attribute x f pos) := by
  refine Snd.mk1 ⟨fun pins s0 σ H Q I hh => ?_⟩ rfl (fun _ => rfl) (fun s => by simp only [evX, fin])
  obtain ⟨F, G, θ, s, t, s', R, ev, k⟩ := hh
  simp only [evX, fin] at ev
  obtain ⟨x1, s1, e1, ev⟩ := Rs.bind_eq ev
  refine (pe_fld ha (attrBase hx)).run pins s0 σ H Q I ⟨F, G, θ, s, x1, s1, R, e1, fun v H1 F1 θ1 R1 l1 p1 r1 => ?_⟩
  split at ev
  · rename_i c ns l e3
    obtain ⟨e5, rfl⟩ := Rs.of_eq ev
    have rd := R1.read r1 (by rw [e3]; rfl)
    rw [e3] at rd
    obtain ⟨a, C0, dx, fs, rfl, h1, h2, h3, h4, h5⟩ := rd
    subst h4
    obtain ⟨g1, w, g2, g3⟩ := getK_fs h5 e5
    obtain ⟨C1, c1, c2⟩ := C.cls c h2
    have : C1 = C0 := by
      have := c1.symm.trans h3
      injection this with this
      injection this
    subst this
    exact ⟨a, C1, dx, fs, w, rfl, h1, c2.cl, c2.na f hf, g2, k w H1 F1 θ1 R1 l1 p1 (RpV.of g3)⟩
  · rename_i n e3
    split at ev
    · rename_i c ns l e4
      obtain ⟨e5, rfl⟩ := Rs.of_eq ev
      have rd := R1.read r1 (by rw [e3]; rfl)
      rw [e3] at rd
      have rd' : Rp (MX D.cl X) F1 θ1 (.ob n) v := rd
      cases rd' with
      | ob hn =>
        obtain ⟨a', q1, q2, q3, zs, q4, q5⟩ := R1.m.ob n _ e4 (fun z => nomatch z)
        rw [hn] at q1
        cases q1
        obtain ⟨C0, dx, fs, rfl, h2, h3, h4, h5⟩ := q5
        subst h4
        obtain ⟨g1, w, g2, g3⟩ := getK_fs h5 e5
        obtain ⟨C1, c1, c2⟩ := C.cls c h2
        have : C1 = C0 := by
          have := c1.symm.trans h3
          injection this with this
          injection this
        subst this
        exact ⟨_, C1, dx, fs, w, rfl, q4, c2.cl, c2.na f hf, g2, k w H1 F1 θ1 R1 l1 p1 (RpV.of g3)⟩
    · cases ev
  · cases ev
/-- x or y, as a test: the truth of its value; a chain of ors is walked as one -/
theorem Snd.orV {a b : Ex} {x y : Expr} {r : List Expr} {pos : Pos} (h : PE X (.BoolOp .Or (x :: y :: r) pos) (RE gc cf (MX D.cl X) (.orV a b))) (ha : Snd D gc cf X a x) (hb1 : r = [] → Snd D gc cf X b y) (hb2 : r ≠ [] → Snd D gc cf X b (.BoolOp .Or (y :: r) pos)) : Snd D gc cf X (.orV a b) (.BoolOp .Or (x :: y :: r) pos) := by
  have no : ∀ {s : Sta} {c : Bool} {s' : Sta}, evX gc cf (.orV a b) true s = .ok (.bl c) s' → False := by
    intro s c s' e
    simp only [evX] at e
    cases e
  refine ⟨h, ⟨fun pins s0 σ H Q I hh => ?_⟩, fun _ => ⟨fun wh pins s0 σ H Q I hh => ?_⟩⟩
  · obtain ⟨F, G, θ, s, b0, s', R, ev, k⟩ := hh
    exact (no ev).elim
  · obtain ⟨F, G, θ, s, b0, s', R, ev, k⟩ := hh
    exact (no ev).elim
end
end Ev
/-! Soundness of expressions: slices, calls, built-ins. -/
namespace Ev
open PySem PySem.Spec L2
open PyProof.Rows hiding St
section
variable {D : Ds} {gc : Nat → Option Tr} {cf : CF} {X : Cx} {K : Mx} {F F' G H : Hp} {θ θ' : List Addr} {s : Sta} {σ : St}
def evO (gc : Nat → Option Tr) (cf : CF) (lo : Ex) (s : Sta) : Rs (Option Int) := if isNul lo = true then .ok none s else asInt (evX gc cf lo false s)
def RO (gc : Nat → Option Tr) (cf : CF) (K : Mx) (lo : Ex) : TO := fun σ H Q => ∃ F G θ s o s', Rel K F G θ s σ H ∧ evO gc cf lo s = .ok o s' ∧ ∀ H' F' θ', Rel K F' G θ' s' σ H' → FLe F F' → θ <+: θ' → Q o H'
theorem sPart {lo : Ex} {l : Option Expr} (h : match l with
      | none => isNul lo = true
      | some l => isNul lo = false ∧ PE X l (RE gc cf (MX D.cl X) lo)) : PO X l (RO gc cf (MX D.cl X) lo) := by
  refine ⟨fun pins s0 σ H Q I hh => ?_⟩
  obtain ⟨F, G, θ, s, o, s', R, ev, k⟩ := hh
  unfold evO at ev
  cases l with
  | none =>
    rw [if_pos h] at ev
    cases ev
    exact po_none.run pins s0 σ H Q I (k H F θ R (FLe.refl F) (List.prefix_refl _))
  | some l =>
    obtain ⟨h1, h2⟩ := h
    rw [if_neg (by rw [h1]; exact Bool.false_ne_true)] at ev
    cases e : evX gc cf lo false s with
    | no => rw [e] at ev; cases ev
    | ok t s1 =>
      rw [e] at ev
      cases t with
      | int i =>
        cases ev
        refine (po_some h2).run pins s0 σ H Q I ⟨F, G, θ, s, .int i, _, R, e, fun v H1 F1 θ1 R1 l1 p1 r1 => ?_⟩
        cases (show Rp _ _ _ _ _ from r1)
        exact ⟨i, rfl, k H1 F1 θ1 R1 l1 p1⟩
      | _ => cases ev
theorem sSl {a lo hi : Ex} {x : Expr} {l h : Option Expr} {p2 pos : Pos} (ha : PE X x (RE gc cf (MX D.cl X) a)) (hl : PO X l (RO gc cf (MX D.cl X) lo)) (hh : PO X h (RO gc cf (MX D.cl X) hi)) : Snd D gc cf X (.sl a lo hi) (.Subscript x (.Slice l h none p2) pos) := by
  refine Snd.mk1 ⟨fun pins s0 σ H Q I hh' => ?_⟩ rfl (fun _ => rfl) (fun s => by simp only [evX, fin])
  obtain ⟨F, G, θ, s, t, s', R, ev, k⟩ := hh'
  simp only [evX, fin] at ev
  obtain ⟨x1, s1, e1, ev⟩ := Rs.bind_eq ev
  obtain ⟨lo', s2, e2, ev⟩ := Rs.bind_eq ev
  obtain ⟨hi', s3, e3, ev⟩ := Rs.bind_eq ev
  obtain ⟨e4, rfl⟩ := Rs.of_eq ev
  refine (pe_slice (sl_tupA.or (sl_list.or sl_str)) ha hl hh).run pins s0 σ H Q I ⟨F, G, θ, s, x1, s1, R, e1, fun v H1 F1 θ1 R1 l1 p1 r1 => ⟨F1, G, θ1, s1, lo', s2, R1, e2, fun H2 F2 θ2 R2 l2 p2 => ⟨F2, G, θ2, s2, hi', _, R2, e3, fun H3 F3 θ3 R3 l3 p3 => ?_⟩⟩⟩
  exact slT_ok R3 e4 (R3.read (r1.mono (l2.trans l3) (p2.trans p3)) (slT_nb e4)) fun u H' F' R' l' r' => k u H' F' θ3 R' (l1.trans (l2.trans (l3.trans l'))) (p1.trans (p2.trans p3)) (RpV.of r')
theorem sCall {sc : Scope} (C : Cxt D gc cf X sc) {f : Nat} {es : List Ex} {xs : List Expr} {x : Str} {p pos : Pos} (hf : D.fns.lookup f = some x) (hg : Gl X x) (hk : okN x = true) (h : PA X xs (RA gc cf (MX D.cl X) es)) (hc : chks D X.N sc es xs = true) : Snd D gc cf X (.call f es) (.Call (.Name x p) xs [] pos) := by
  obtain ⟨k1, k2⟩ := okN_ok hk
  refine Snd.mk1 ⟨fun pins s0 σ H Q I hh => ?_⟩ rfl (fun _ => rfl) (fun s => by simp only [evX, fin])
  obtain ⟨F, G, θ, s, t, s', R, ev, k⟩ := hh
  simp only [evX, fin] at ev
  obtain ⟨ts, s1, e1, ev⟩ := Rs.bind_eq ev
  split at ev
  · rename_i hp
    split at ev
    · rename_i t' m e2
      cases ev
      obtain ⟨fa, fd, ps, kk, _, hm, kp, hb, hr, hF, hlen⟩ := C.fn f x hf ts s1.mem _ e2
      replace hb := hb.binds
      have rd : ∀ vs H1 F1 θ1, Rel (MX D.cl X) F1 G θ1 s1 σ H1 → FLe F F1 → θ <+: θ1 → RpVs (MX D.cl X) F1 θ1 σ ts vs → SpE (MX D.cl X) cf f ps.length (vs ++ []) H1 Q E0 := by
        intro vs H1 F1 θ1 R1 l1 p1 r1
        have r := r1.rps hp
        rw [List.append_nil]
        refine ⟨by rw [r.length, hlen], F1, ownG s1 σ G H1, θ1, ts, s1.mem, _, m, R1.out, r, e2, fun v H' F' θ' M l' p' rr => ?_⟩
        exact k v H' F' θ' (R1.back M l' p') (l1.trans l') (p1.trans p') (RpV.of rr)
      cases xs with
      | nil =>
        cases es with
        | cons _ _ => exact nomatch hc
        | nil =>
          simp only [evEs] at e1
          cases e1
          exact (pe_callG0 hF hr C.gd hg hm kp hb k1).run pins s0 σ H Q I (rd [] H F θ R (FLe.refl F) (List.prefix_refl _) .nil)
      | cons e es' =>
        cases es with
        | nil => exact nomatch hc
        | cons e0 es0 =>
          have hc' := hc
          simp only [chks] at hc'
          obtain ⟨h1, h2⟩ := and2 hc'
          obtain ⟨h1, h3⟩ := and2 h1
          exact (pe_callG hF hr C.gd hg hm kp hb h k1 (star_cons (by simpa using h1)) (chks_plain h2)).run pins s0 σ H Q I ⟨F, G, θ, s, ts, s1, R, e1, fun vs H1 F1 θ1 R1 l1 p1 r1 => rd vs H1 F1 θ1 R1 l1 p1 r1⟩
    · cases ev
  · cases ev
def HZ (g : List Value → List Value → List Value) : Prop := True
theorem chkK_facts {D : Ds} {N : List Str} {sc : Scope} {env : Env} {pos : Pos} : ∀ {es : List Ex} {ps : List Str} {kws : List Keyword}, chkK D N sc es ps kws = true →
    (backToKw pos (keywordEach kws env)).all (·.1.isSome) = true ∧ (backToKw pos (keywordEach kws env)).filterMap (·.1) = ps ∧ (backToKw pos (keywordEach kws env)).any (·.1.isNone) = false
  | [], ps, kws, h => by
    simp only [chkK] at h
    split at h
    · split at h
      · exact ⟨rfl, rfl, rfl⟩
      · cases h
    · cases h
  | e :: es, ps, kws, h => by
    cases ps with
    | nil => simp only [chkK] at h; cases h
    | cons p ps => cases kws with
      | nil => simp only [chkK] at h; cases h
      | cons kw kws =>
        obtain ⟨nm, x, kp⟩ := kw
        cases nm with
        | none => simp only [chkK] at h; cases h
        | some nm =>
        simp only [chkK] at h
        obtain ⟨h1, h2⟩ := and2 h
        obtain ⟨h1, h3⟩ := and2 h1
        obtain rfl := of_decide_eq_true h1
        obtain ⟨q1, q2, q3⟩ := chkK_facts (env := env) (pos := pos) h2
        refine ⟨?_, ?_, ?_⟩
        · show (true && (backToKw pos (keywordEach kws env)).all (·.1.isSome)) = true
          rw [q1]; rfl
        · show nm :: (backToKw pos (keywordEach kws env)).filterMap (·.1) = nm :: ps
          rw [q2]
        · show (false || (backToKw pos (keywordEach kws env)).any (·.1.isNone)) = false
          rw [q3]; rfl
theorem chkK_len {D : Ds} {N : List Str} {sc : Scope} : ∀ {es : List Ex} {ps : List Str} {kws : List Keyword}, chkK D N sc es ps kws = true → es.length = ps.length
  | [], ps, kws, h => by
    simp only [chkK] at h
    split at h
    · rfl
    · cases h
  | e :: es, ps, kws, h => by
    cases ps with
    | nil => simp only [chkK] at h; cases h
    | cons p ps => cases kws with
      | nil => simp only [chkK] at h; cases h
      | cons kw kws =>
        obtain ⟨nm, x, kp⟩ := kw
        cases nm with
        | none => simp only [chkK] at h; cases h
        | some nm =>
        simp only [chkK] at h
        rw [List.length_cons, List.length_cons, chkK_len (and2 h).2]
theorem run_fnGK {k : Nat} {f : Addr} {fd : FuncData} {ps : List Str} {sp : Sp} {pins : List (Addr × Obj)} {σ : L2.St} {H : Hp} {s : Shared} {Q : VK} {us ws : List Value} {vs zs : List V} (F : FnG X.prog X.w X.K X.mg X.base k f fd ps sp) (hr : Room k X.A) (hgd : X.A.guards = some []) (hb : KB X.K fd ps)
    (I : Inv X pins σ H s) (r : Vals vs us) (rz : Vals zs ws) (h : sp (vs ++ zs) H Q E0) : wpAny (model X.prog X.w) X.A (call (.ref f) us ((ps.drop us.length).zip ws)) (EP X pins σ Q) X.xe s := by
  have r2 := r.append rz
  have hl : (us ++ ws).length = ps.length := by rw [← r2.length]; exact F.len _ _ _ _ h
  refine wpAny_call (codeAny_mono (F.run X.A X.stack s H ⟨us, (ps.drop us.length).zip ws⟩ (us ++ ws) (vs ++ zs) Q E0 hr hgd I.env0 (hb s us ws I.kIn hl) r2 h) fun rr s' hq => ?_)
  cases rr with
  | error e => exact False.elim hq
  | ok fl =>
    cases fl with
    | ret u => exact I.after hq
    | _ => exact False.elim hq
theorem RpVs.append {K : Mx} {F : Hp} {θ : List Addr} {σ : L2.St} : ∀ {ts us : List Tr} {vs ws : List V}, RpVs K F θ σ ts vs → RpVs K F θ σ us ws → RpVs K F θ σ (ts ++ us) (vs ++ ws)
  | _, _, _, _, .nil, h => h
  | _, _, _, _, .cons a b, h => .cons a (RpVs.append b h)
theorem RpVs.len {K : Mx} {F : Hp} {θ : List Addr} {σ : L2.St} : ∀ {ts : List Tr} {vs : List V}, RpVs K F θ σ ts vs → vs.length = ts.length
  | _, _, .nil => rfl
  | _, _, .cons _ b => by rw [List.length_cons, List.length_cons, b.len]
theorem evEs_len : ∀ {es : List Ex} {s s' : Sta} {ts : List Tr}, evEs gc cf es s = .ok ts s' → ts.length = es.length
  | [], s, s', ts, h => by simp only [evEs] at h; cases h; rfl
  | e :: es, s, s', ts, h => by
    simp only [evEs] at h
    obtain ⟨t, s1, e1, h⟩ := Rs.bind_eq h
    obtain ⟨us, s2, e2, h⟩ := Rs.bind_eq h
    cases h
    rw [List.length_cons, List.length_cons, evEs_len e2]
theorem sCallK {sc : Scope} (C : Cxt D gc cf X sc) {f : Nat} {es ks : List Ex} {xs : List Expr} {kws : List Keyword} {x : Str} {p pos : Pos} {ps0 : List Str} (hf : D.fns.lookup f = some x) (hg : Gl X x) (hk : okN x = true) (h : PA X xs (RA gc cf (MX D.cl X) es)) (hc : chks D X.N sc es xs = true)
    (hp0 : D.pars.lookup f = some ps0) (hkk : PK X kws (RA gc cf (MX D.cl X) ks)) (hck : chkK D X.N sc ks (ps0.drop es.length) kws = true) : Snd D gc cf X (.callK f es ks) (.Call (.Name x p) xs kws pos) := by
  obtain ⟨k1, k2⟩ := okN_ok hk
  refine Snd.mk1 ⟨fun pins s0 σ H Q I hh => ?_⟩ rfl (fun _ => rfl) (fun s => by simp only [evX, fin])
  obtain ⟨F, G, θ, s, t, s', R, ev, k⟩ := hh
  simp only [evX, fin] at ev
  obtain ⟨ts, s1, e1, ev⟩ := Rs.bind_eq ev
  obtain ⟨us, s2, e2, ev⟩ := Rs.bind_eq ev
  split at ev
  · rename_i hp
    split at ev
    · rename_i t' m e3
      cases ev
      obtain ⟨fa, fd, ps, kk, hpar, hm, kp, hb, hr, hF, hlen⟩ := C.fn f x hf (ts ++ us) s2.mem _ e3
      rw [hp0] at hpar
      cases hpar
      obtain ⟨q1, q2, q3⟩ := chkK_facts (env := X.env) (pos := pos) hck
      have rd : ∀ vs H1 F1 θ1, Rel (MX D.cl X) F1 G θ1 s2 σ H1 → FLe F F1 → θ <+: θ1 → RpVs (MX D.cl X) F1 θ1 σ (ts ++ us) vs → SpE (MX D.cl X) cf f ps0.length vs H1 Q E0 := by
        intro vs H1 F1 θ1 R1 l1 p1 r1
        have r := r1.rps hp
        refine ⟨by rw [r.length, hlen], F1, ownG s2 σ G H1, θ1, _, s2.mem, _, m, R1.out, r, e3, fun v H' F' θ' M l' p' rr => ?_⟩
        exact k v H' F' θ' (R1.back M l' p') (l1.trans l') (p1.trans p') (RpV.of rr)
      have tl : ts.length = es.length := evEs_len e1
      refine wpAny_Call_Name_kw (ld_glob I hg hm ?_ k1)
      cases xs with
      | nil =>
        cases es with
        | cons _ _ => exact nomatch hc
        | nil =>
          simp only [evEs] at e1
          cases e1
          refine PySem.W.callWith_KW0 (h₀ := X.base) I.ok.mod.kin kp q1 (thn (hkk.run pos pins s0 σ H _ I ⟨F, G, θ, _, us, s2, R, e2, fun zs H2 F2 θ2 R2 l2 p2 r2 => (⟨F2, θ2, R2, l2, p2, r2⟩ : ∃ F2 θ2, Rel (MX D.cl X) F2 G θ2 s2 σ H2 ∧ FLe F F2 ∧ θ <+: θ2 ∧ RpVs (MX D.cl X) F2 θ2 σ us zs)⟩) fun ws s3 ⟨zs, H2, I2, rz, F2, θ2, R2, l2, p2, r2⟩ => ⟨I2.kIn, ?_⟩) (by show (false || _) = false; rw [q3]; rfl)
          rw [q2]
          exact run_fnGK (us := []) (vs := []) hF hr C.gd hb I2 .nil rz (rd _ H2 F2 θ2 R2 l2 p2 r2)
      | cons e es' =>
        cases es with
        | nil => exact nomatch hc
        | cons e0 es0 =>
          have hc' := hc
          simp only [chks] at hc'
          obtain ⟨h1, h2⟩ := and2 hc'
          obtain ⟨h1, h3⟩ := and2 h1
          have hst := star_cons (es := es') (env := X.env) (by simpa using h1)
          have hpl : ((backTo pos (starEach (e :: es') X.env)).any (·.1) || (backToKw pos (keywordEach kws X.env)).any (·.1.isNone)) = false := by
            rw [q3, chks_plain hc]; rfl
          refine PySem.W.callWith_KW (h₀ := X.base) I.ok.mod.kin kp q1 (thn (h.run pos pins s0 σ H _ I ⟨F, G, θ, s, ts, s1, R, e1, fun vs H1 F1 θ1 R1 l1 p1 r1 => (⟨F1, θ1, R1, l1, p1, r1⟩ : ∃ F1 θ1, Rel (MX D.cl X) F1 G θ1 s1 σ H1 ∧ FLe F F1 ∧ θ <+: θ1 ∧ RpVs (MX D.cl X) F1 θ1 σ ts vs)⟩) fun u1 s3 ⟨vs, H1, I1, r, F1, θ1, R1, l1, p1, r1⟩ => ?_) hpl hst
          refine thn (hkk.run pos pins s3 σ H1 _ I1 ⟨F1, G, θ1, s1, us, s2, R1, e2, fun zs H2 F2 θ2 R2 l2 p2 r2 => (⟨F2, θ2, R2, l2, p2, r2⟩ : ∃ F2 θ2, Rel (MX D.cl X) F2 G θ2 s2 σ H2 ∧ FLe F1 F2 ∧ θ1 <+: θ2 ∧ RpVs (MX D.cl X) F2 θ2 σ us zs)⟩) fun ws s4 ⟨zs, H2, I2, rz, F2, θ2, R2, l2, p2, r2⟩ => ⟨I2.kIn, ?_⟩
          have lu : u1.length = (e0 :: es0).length := by rw [← r.length, r1.len, tl]
          rw [q2, ← lu]
          exact run_fnGK hF hr C.gd hb I2 r rz (rd _ H2 F2 θ2 R2 (l1.trans l2) (p1.trans p2) ((r1.mono l2 p2).append r2))
    · cases ev
  · cases ev
theorem run_fnGP {k : Nat} {f : Addr} {fd : FuncData} {ps : List Str} {sp : Sp} {pins : List (Addr × Obj)} {σ : L2.St} {H : Hp} {s : Shared} {Q : VK} {us ws ws' : List Value} {vs zs : List V} {n : Nat} {qs : List Nat} {ns : List Str} (F : FnG X.prog X.w X.K X.mg X.base k f fd ps sp) (hr : Room k X.A) (hgd : X.A.guards = some []) (hb : KP X.K fd ps n qs ns)
    (I : Inv X pins σ H s) (r : Vals vs us) (rz : Vals zs ws') (hw : ws' = pick qs ws) (hn : us.length = n) (hn2 : ws.length = ns.length) (h : sp (vs ++ zs) H Q E0) : wpAny (model X.prog X.w) X.A (call (.ref f) us (ns.zip ws)) (EP X pins σ Q) X.xe s := by
  have r2 := r.append rz
  refine wpAny_call (codeAny_mono (F.run X.A X.stack s H ⟨us, ns.zip ws⟩ (us ++ ws') (vs ++ zs) Q E0 hr hgd I.env0 (by rw [hw]; exact hb s us ws I.kIn hn hn2) r2 h) fun rr s' hq => ?_)
  cases rr with
  | error e => exact False.elim hq
  | ok fl =>
    cases fl with
    | ret u => exact I.after hq
    | _ => exact False.elim hq
theorem rv_get {K : Mx} {F : Hp} {θ : List Addr} {σ : L2.St} : ∀ {ts : List Tr} {vs : List V} {us : List Value}, RpVs K F θ σ ts vs → Vals vs us → ∀ i : Nat, (∃ (t : Tr) (v : V) (u : Value), ts[i]? = some t ∧ vs[i]? = some v ∧ us[i]? = some u ∧ RpV K F θ σ t v ∧ RelV v u) ∨ (ts[i]? = none ∧ vs[i]? = none ∧ us[i]? = none)
  | _, _, _, .nil, .nil, i => .inr ⟨by simp, by simp, by simp⟩
  | _, _, _, .cons a b, .cons c d, 0 => .inl ⟨_, _, _, rfl, rfl, rfl, a, c⟩
  | _, _, _, .cons a b, .cons c d, i + 1 => by
    rcases rv_get b d i with h | h
    · exact .inl (by simpa using h)
    · exact .inr (by simpa using h)
theorem pick_rel {K : Mx} {F : Hp} {θ : List Addr} {σ : L2.St} {ts : List Tr} {vs : List V} {us : List Value} (r : RpVs K F θ σ ts vs) (v : Vals vs us) : ∀ qs : List Nat, RpVs K F θ σ (pick qs ts) (pick qs vs) ∧ Vals (pick qs vs) (pick qs us)
  | [] => ⟨.nil, .nil⟩
  | q :: qs => by
    obtain ⟨a, b⟩ := pick_rel r v qs
    rcases rv_get r v q with ⟨t, x, u, e1, e2, e3, p1, p2⟩ | ⟨e1, e2, e3⟩
    · have z : ∀ {α : Type} {l : List α} {y : α}, l[q]? = some y → pick (q :: qs) l = y :: pick qs l := fun h => by simp [pick, List.filterMap_cons, h]
      rw [z e1, z e2, z e3]
      exact ⟨.cons p1 a, .cons p2 b⟩
    · have z : ∀ {α : Type} {l : List α}, l[q]? = none → pick (q :: qs) l = pick qs l := fun h => by simp [pick, List.filterMap_cons, h]
      rw [z e1, z e2, z e3]
      exact ⟨a, b⟩
theorem pick_all {ts : List Tr} (h : ts.all Tr.pure = true) (qs : List Nat) : (pick qs ts).all Tr.pure = true := by
  rw [List.all_eq_true] at h ⊢
  intro x hx
  obtain ⟨i, _, hi⟩ := List.mem_filterMap.mp hx
  exact h x (List.mem_of_getElem? hi)
theorem sCallP {sc : Scope} (C : Cxt D gc cf X sc) {f : Nat} {es ks : List Ex} {xs : List Expr} {kws : List Keyword} {x : Str} {p pos : Pos} {qs : List Nat} {ns : List Str} (hf : D.fns.lookup f = some x) (hg : Gl X x) (hk : okN x = true) (h : PA X xs (RA gc cf (MX D.cl X) es)) (hc : chks D X.N sc es xs = true)
    (hp0 : D.prms.lookup f = some (es.length, qs, ns)) (hkk : PK X kws (RA gc cf (MX D.cl X) ks)) (hck : chkK D X.N sc ks ns kws = true) : Snd D gc cf X (.callP f es ks qs) (.Call (.Name x p) xs kws pos) := by
  obtain ⟨k1, k2⟩ := okN_ok hk
  refine Snd.mk1 ⟨fun pins s0 σ H Q I hh => ?_⟩ rfl (fun _ => rfl) (fun s => by simp only [evX, fin])
  obtain ⟨F, G, θ, s, t, s', R, ev, k⟩ := hh
  simp only [evX, fin] at ev
  obtain ⟨ts, s1, e1, ev⟩ := Rs.bind_eq ev
  obtain ⟨us, s2, e2, ev⟩ := Rs.bind_eq ev
  split at ev
  · rename_i hp
    split at ev
    · rename_i t' m e3
      cases ev
      obtain ⟨fa, fd, ps, kk, hpar, hm, kp, hb, hr, hF, hlen⟩ := C.fnP f x _ _ _ hf hp0 (ts ++ pick qs us) s2.mem _ e3
      obtain ⟨q1, q2, q3⟩ := chkK_facts (env := X.env) (pos := pos) hck
      have hp' : (ts ++ pick qs us).all Tr.pure = true := by
        rw [List.all_append, Bool.and_eq_true] at hp ⊢
        exact ⟨hp.1, pick_all hp.2 qs⟩
      have rd : ∀ vs H1 F1 θ1, Rel (MX D.cl X) F1 G θ1 s2 σ H1 → FLe F F1 → θ <+: θ1 → RpVs (MX D.cl X) F1 θ1 σ (ts ++ pick qs us) vs → SpE (MX D.cl X) cf f ps.length vs H1 Q E0 := by
        intro vs H1 F1 θ1 R1 l1 p1 r1
        have r := r1.rps hp'
        refine ⟨by rw [r.length, hlen], F1, ownG s2 σ G H1, θ1, _, s2.mem, _, m, R1.out, r, e3, fun v H' F' θ' M l' p' rr => ?_⟩
        exact k v H' F' θ' (R1.back M l' p') (l1.trans l') (p1.trans p') (RpV.of rr)
      have tl : ts.length = es.length := evEs_len e1
      have ul : us.length = ks.length := evEs_len e2
      have nl : ks.length = ns.length := chkK_len hck
      refine wpAny_Call_Name_kw (ld_glob I hg hm ?_ k1)
      cases xs with
      | nil =>
        cases es with
        | cons _ _ => exact nomatch hc
        | nil =>
          simp only [evEs] at e1
          cases e1
          refine PySem.W.callWith_KW0 (h₀ := X.base) I.ok.mod.kin kp q1 (thn (hkk.run pos pins s0 σ H _ I ⟨F, G, θ, _, us, s2, R, e2, fun zs H2 F2 θ2 R2 l2 p2 r2 => (⟨F2, θ2, R2, l2, p2, r2⟩ : ∃ F2 θ2, Rel (MX D.cl X) F2 G θ2 s2 σ H2 ∧ FLe F F2 ∧ θ <+: θ2 ∧ RpVs (MX D.cl X) F2 θ2 σ us zs)⟩) fun ws s3 ⟨zs, H2, I2, rz, F2, θ2, R2, l2, p2, r2⟩ => ⟨I2.kIn, ?_⟩) (by show (false || _) = false; rw [q3]; rfl)
          rw [q2]
          obtain ⟨g1, g2⟩ := pick_rel r2 rz qs
          exact run_fnGP (us := []) (vs := []) hF hr C.gd hb I2 .nil g2 rfl rfl (by rw [← rz.length, r2.len, ul, nl]) (rd _ H2 F2 θ2 R2 l2 p2 g1)
      | cons e es' =>
        cases es with
        | nil => exact nomatch hc
        | cons e0 es0 =>
          have hc' := hc
          simp only [chks] at hc'
          obtain ⟨h1, h2⟩ := and2 hc'
          obtain ⟨h1, h3⟩ := and2 h1
          have hst := star_cons (es := es') (env := X.env) (by simpa using h1)
          have hpl : ((backTo pos (starEach (e :: es') X.env)).any (·.1) || (backToKw pos (keywordEach kws X.env)).any (·.1.isNone)) = false := by
            rw [q3, chks_plain hc]; rfl
          refine PySem.W.callWith_KW (h₀ := X.base) I.ok.mod.kin kp q1 (thn (h.run pos pins s0 σ H _ I ⟨F, G, θ, s, ts, s1, R, e1, fun vs H1 F1 θ1 R1 l1 p1 r1 => (⟨F1, θ1, R1, l1, p1, r1⟩ : ∃ F1 θ1, Rel (MX D.cl X) F1 G θ1 s1 σ H1 ∧ FLe F F1 ∧ θ <+: θ1 ∧ RpVs (MX D.cl X) F1 θ1 σ ts vs)⟩) fun u1 s3 ⟨vs, H1, I1, r, F1, θ1, R1, l1, p1, r1⟩ => ?_) hpl hst
          refine thn (hkk.run pos pins s3 σ H1 _ I1 ⟨F1, G, θ1, s1, us, s2, R1, e2, fun zs H2 F2 θ2 R2 l2 p2 r2 => (⟨F2, θ2, R2, l2, p2, r2⟩ : ∃ F2 θ2, Rel (MX D.cl X) F2 G θ2 s2 σ H2 ∧ FLe F1 F2 ∧ θ1 <+: θ2 ∧ RpVs (MX D.cl X) F2 θ2 σ us zs)⟩) fun ws s4 ⟨zs, H2, I2, rz, F2, θ2, R2, l2, p2, r2⟩ => ⟨I2.kIn, ?_⟩
          have lu : u1.length = (e0 :: es0).length := by rw [← r.length, r1.len, tl]
          rw [q2]
          obtain ⟨g1, g2⟩ := pick_rel r2 rz qs
          exact run_fnGP hF hr C.gd hb I2 r g2 rfl lu (by rw [← rz.length, r2.len, ul, nl]) (rd _ H2 F2 θ2 R2 (l1.trans l2) (p1.trans p2) ((r1.mono l2 p2).append g1))
    · cases ev
  · cases ev
theorem biT_nil {b : Bi} : biT b [] = none := by cases b <;> rfl
theorem sBiF {sc : Scope} (C : Cxt D gc cf X sc) {b : Bi} {es : List Ex} {xs : List Expr} {p pos : Pos} {id : String} (hid : b.fnId = some id) (hg : Gl X b.nm) (hm : X.mg b.nm = none) (h : PA X xs (RA gc cf (MX D.cl X) es)) (hc : chks D X.N sc es xs = true) : Snd D gc cf X (.bi b es) (.Call (.Name b.nm p) xs [] pos) := by
  refine Snd.mk1 ⟨fun pins s0 σ H Q I hh => ?_⟩ rfl (fun _ => rfl) (fun s => by simp only [evX, fin])
  obtain ⟨F, G, θ, s, t, s', R, ev, k⟩ := hh
  simp only [evX, fin] at ev
  obtain ⟨ts, s1, e1, ev⟩ := Rs.bind_eq ev
  split at ev
  · rename_i hp
    obtain ⟨e2, rfl⟩ := Rs.of_eq ev
    cases es with
    | nil => simp only [evEs] at e1; cases e1; rw [List.map_nil, biT_nil] at e2; cases e2
    | cons e0 es0 =>
      cases xs with
      | nil => exact nomatch hc
      | cons x0 xs0 =>
        have hc' := hc
        simp only [chks] at hc'
        obtain ⟨h1, h2⟩ := and2 hc'
        obtain ⟨h1, h3⟩ := and2 h1
        refine (pe_callB (biT_fn (cl := D.cl) C.calm C.gd C.un hid e2) hg hm (fn_boot hid) h (nm_ne b) (nm_db b) (star_cons (by simpa using h1)) (chks_plain h2)).run pins s0 σ H Q I ⟨F, G, θ, s, ts, _, R, e1, fun vs H1 F1 θ1 R1 l1 p1 r1 => ?_⟩
        exact ⟨F1, G, θ1, _, σ, R1, R1.reads r1 hp, fun u H' F' R' l' r' => k u H' F' θ1 R' (l1.trans l') p1 (RpV.of r')⟩
  · cases ev
theorem sBiT {sc : Scope} {b : Bi} {es : List Ex} {xs : List Expr} {p pos : Pos} {id : String} (hid : b.tyId = some id) (hg : Gl X b.nm) (hm : X.mg b.nm = none) (h : PA X xs (RA gc cf (MX D.cl X) es)) (hc : chks D X.N sc es xs = true) : Snd D gc cf X (.bi b es) (.Call (.Name b.nm p) xs [] pos) := by
  refine Snd.mk1 ⟨fun pins s0 σ H Q I hh => ?_⟩ rfl (fun _ => rfl) (fun s => by simp only [evX, fin])
  obtain ⟨F, G, θ, s, t, s', R, ev, k⟩ := hh
  simp only [evX, fin] at ev
  obtain ⟨ts, s1, e1, ev⟩ := Rs.bind_eq ev
  split at ev
  · rename_i hp
    obtain ⟨e2, rfl⟩ := Rs.of_eq ev
    cases es with
    | nil => simp only [evEs] at e1; cases e1; rw [List.map_nil, biT_nil] at e2; cases e2
    | cons e0 es0 =>
      cases xs with
      | nil => exact nomatch hc
      | cons x0 xs0 =>
        have hc' := hc
        simp only [chks] at hc'
        obtain ⟨h1, h2⟩ := and2 hc'
        obtain ⟨h1, h3⟩ := and2 h1
        refine (pe_callTy (biT_ty (cl := D.cl) hid e2) hg hm (ty_boot hid) h (nm_ne b) (nm_db b) (star_cons (by simpa using h1)) (chks_plain h2)).run pins s0 σ H Q I ⟨F, G, θ, s, ts, _, R, e1, fun vs H1 F1 θ1 R1 l1 p1 r1 => ?_⟩
        exact ⟨F1, G, θ1, _, σ, R1, R1.reads r1 hp, fun u H' F' R' l' r' => k u H' F' θ1 R' (l1.trans l') p1 (RpV.of r')⟩
  · cases ev
theorem boot_tys : bootBuiltins "int" = some (.type "int") ∧ bootBuiltins "bool" = some (.type "bool") ∧ bootBuiltins "str" = some (.type "str") ∧ bootBuiltins "tuple" = some (.type "tuple") := ⟨by decide +kernel, by decide +kernel, by decide +kernel, by decide +kernel⟩
theorem sBiI {sc : Scope} (C : Cxt D gc cf X sc) {b : Bi} {es : List Ex} {z : Expr} {y : Str} {p q pos : Pos} {id : String} (hid : b.isTy = some id) (hg : Gl X b.nm) (hm : X.mg b.nm = none) (hy : Gl X y) (hmy : X.mg y = none) (hby : bootBuiltins y = some (.type id)) (hny : y ≠ "__name__") (hdy : (y == ("__debug__" : Str)) = false)
    (h : PA X [z] (RA gc cf (MX D.cl X) es)) (hp1 : ∀ e, es = [e] → PE X z (RE gc cf (MX D.cl X) e)) (hc : chks D X.N sc es [z] = true) : Snd D gc cf X (.bi b es) (.Call (.Name b.nm p) [z, .Name y q] [] pos) := by
  refine Snd.mk1 ⟨fun pins s0 σ H Q I hh => ?_⟩ rfl (fun _ => rfl) (fun s => by simp only [evX, fin])
  obtain ⟨F, G, θ, s, t, s', R, ev, k⟩ := hh
  simp only [evX, fin] at ev
  obtain ⟨ts, s1, e1, ev⟩ := Rs.bind_eq ev
  split at ev
  · rename_i hp
    obtain ⟨e2, rfl⟩ := Rs.of_eq ev
    cases es with
    | nil => exact nomatch hc
    | cons e0 es0 =>
      simp only [chks] at hc
      obtain ⟨h1, h2⟩ := and2 hc
      obtain ⟨h1, h3⟩ := and2 h1
      cases es0 with
      | cons _ _ => exact nomatch h2
      | nil =>
        have hst := star_cons (es := [.Name y q]) (env := X.env) (e := z) (by simpa using h1)
        simp only [evEs] at e1
        obtain ⟨t0, s2, e3, e4⟩ := Rs.bind_eq e1
        cases e4
        have nb : b.nm = "isinstance" := by cases b <;> first | rfl | cases hid
        have bt : bootBuiltins b.nm = some (.builtin "isinstance") := by rw [nb]; decide +kernel
        refine (pe_callB (biT_is (cl := D.cl) hid e2) hg hm bt (pa_cons (hp1 e0 rfl) (pa_cons (pe_bltn (v := .ty id) hy hmy hby (show RelV (.ty id) (.type id) from rfl) hny hdy) pa_nil (by rfl)) hst) (nm_ne b) (nm_db b) hst (by rfl)).run pins s0 σ H Q I ⟨F, G, θ, s, t0, _, R, e3, fun v H1 F1 θ1 R1 l1 p1 r1 => ?_⟩
        exact ⟨v, rfl, F1, G, θ1, _, σ, R1, R1.reads (.cons r1 .nil) hp, fun u H' F' R' l' r' => k u H' F' θ1 R' (l1.trans l') p1 (RpV.of r')⟩
  · cases ev
theorem listRg_eq {x t : Tr} (h : biT .listRg [x] = some t) : ∃ n, x = .int n ∧ (0 ≤ n ∧ n ≤ 16777216) ∧ t = .lst (rgT 0 n) := by
  cases x with
  | int n =>
    simp only [biT] at h
    split at h
    · rename_i hb
      cases h
      obtain ⟨q1, q2⟩ := and2 hb
      have q1 := of_decide_eq_true q1
      have q2 := Nat.le_of_ble_eq_true q2
      exact ⟨n, rfl, ⟨q1, by omega⟩, rfl⟩
    · cases h
  | _ => exact nomatch h
theorem map_rps {α : Type} {f : α → Tr} {g : α → V} (h : ∀ a, Rp K F θ (f a) (g a)) : ∀ l : List α, Rps K F θ (l.map f) (l.map g)
  | [] => .nil
  | a :: l => .cons (h a) (map_rps h l)
theorem rgT_rps (a b : Int) : Rps K F θ (rgT a b) (rgV a b) := map_rps (fun _ => .int _) _
theorem sListRg {sc : Scope} (C : Cxt D gc cf X sc) {es : List Ex} {y0 : Expr} {p q pos pos2 : Pos} (hg : Gl X "list") (hm : X.mg "list" = none) (hg2 : Gl X "range") (hm2 : X.mg "range" = none) (hp1 : ∀ e, es = [e] → PE X y0 (RE gc cf (MX D.cl X) e)) (hc : chks D X.N sc es [y0] = true) :
    Snd D gc cf X (.bi .listRg es) (.Call (.Name "list" p) [.Call (.Name "range" q) [y0] [] pos2] [] pos) := by
  refine Snd.mk1 ⟨fun pins s0 σ H Q I hh => ?_⟩ rfl (fun _ => rfl) (fun s => by simp only [evX, fin])
  obtain ⟨F, G, θ, s, t, s', R, ev, k⟩ := hh
  simp only [evX, fin] at ev
  obtain ⟨ts, s1, e1, ev⟩ := Rs.bind_eq ev
  split at ev
  · rename_i hp
    obtain ⟨e2, rfl⟩ := Rs.of_eq ev
    cases es with
    | nil => exact nomatch hc
    | cons e0 es0 =>
      simp only [chks] at hc
      obtain ⟨h1, h2⟩ := and2 hc
      obtain ⟨h1, h3⟩ := and2 h1
      cases es0 with
      | cons _ _ => exact nomatch h2
      | nil =>
        have hst := star_cons (es := []) (env := X.env) (e := y0) (by simpa using h1)
        simp only [evEs] at e1
        obtain ⟨t0, s2, e3, e4⟩ := Rs.bind_eq e1
        cases e4
        refine (pe_listRg C.calm hg hm (prg_1 hg2 hm2 (hp1 e0 rfl) hst)).run pins s0 σ H Q I ⟨F, G, θ, s, t0, _, R, e3, fun v H1 F1 θ1 R1 l1 p1 r1 => ?_⟩
        simp only [List.map_cons, List.map_nil] at e2 hp
        have rr := R1.read r1 (by simpa using hp)
        obtain ⟨n, e5, e6, rfl⟩ := listRg_eq e2
        rw [e5] at rr
        cases intH rr
        exact ⟨n, rfl, RgOk.of_le (Int.le_refl 0) e6.2 (by decide) e6.1, fun l hl => Fin.lst (fun u H' F' R' l' r' => k u H' F' θ1 R' (l1.trans l') p1 (RpV.of r')) R1 hl (rgT_rps 0 n)⟩
  · cases ev
theorem last_rps {l : List Tr} {xs : List V} {t : Tr} (r : Rps K F θ l xs) (h : l.getLast? = some t) : ∃ v, xs[xs.length - 1]? = some v ∧ Rp K F θ t v := by
  rw [List.getLast?_eq_getElem?] at h
  obtain ⟨v, e, q⟩ := r.get h
  exact ⟨v, by rw [r.length]; exact e, q⟩
theorem sPop {i : Nat} {x : Str} {ap p2 pos : Pos} (hN : X.N[i]? = some x) (hv : Vis X.env.scope x) (hk : okN x = true) (hl : (ap.endLine == pos.line) = true) : Snd D gc cf X (.pop i) (.Call (.Attribute (.Name x p2) "pop" ap) [] [] pos) := by
  obtain ⟨k1, k2⟩ := okN_ok hk
  refine Snd.mk1 ⟨fun pins s0 σ H Q I hh => ?_⟩ rfl (fun _ => rfl) (fun s => by simp only [evX, fin])
  obtain ⟨F, G, θ, s, t, s', R, ev, k⟩ := hh
  simp only [evX, fin] at ev
  split at ev
  · rename_i l e
    split at ev
    · rename_i t' e2
      cases ev
      obtain ⟨a, o, e1, h, f, g, tt, xs, rfl, q⟩ := R.slot i _ e
      obtain ⟨v, e3, r⟩ := last_rps q e2
      refine (pe_bm0 PySem.F.plainAttrs_list PySem.F.slot_list_pop PySem.F.type_list_pop mt_pop (pe_var (i := i) hN hv k1 k2) (by rfl) hl).run pins s0 σ H Q I ⟨_, e1, .inl ⟨rfl, _, SqL.of h⟩, a, xs, v, rfl, rfl, h, e3, ?_⟩
      exact k v _ F θ (R.ownUpd (l' := .lst l.dropLast) e e1 ⟨_, rfl, q.dropLast⟩) (FLe.refl F) (List.prefix_refl _) (RpV.of r)
    · cases ev
  · cases ev
theorem few1 {z : Expr} {env : Env} {cp : Pos} (hst : isStar z = false) : ((backTo cp (starEach [z] env)).all (fun x => !x.1) && (backToKw cp (keywordEach [] env)).all (fun x => x.1.isSome) && decide ([z].length + ([] : List Keyword).length + (if ([] : List Keyword).isEmpty then 0 else 1) < 30)) = true := by
  rw [star_cons hst]
  rfl
theorem sPopAt {sc : Scope} (C : Cxt D gc cf X sc) {i : Nat} {e : Ex} {x : Str} {ap p2 pos : Pos} {z : Expr} (hN : X.N[i]? = some x) (hv : Vis X.env.scope x) (hk : okN x = true) (hl : (ap.endLine == pos.line) = true) (hst : isStar z = false) (he : PE X z (RE gc cf (MX D.cl X) e)) : Snd D gc cf X (.popAt i e) (.Call (.Attribute (.Name x p2) "pop" ap) [z] [] pos) := by
  obtain ⟨k1, k2⟩ := okN_ok hk
  refine Snd.mk1 ⟨fun pins s0 σ H Q I hh => ?_⟩ rfl (fun _ => rfl) (fun s => by simp only [evX, fin])
  obtain ⟨F, G, θ, s, t, s', R, ev, k⟩ := hh
  simp only [evX, fin] at ev
  split at ev
  · rename_i l0 en
    obtain ⟨t1, s1, e1, ev⟩ := Rs.bind_eq ev
    obtain ⟨a, o, ea, ha, _, _, _, xs0, rfl, q0⟩ := R.slot i _ en
    split at ev
    · rename_i l kk en1
      split at ev
      · rename_i j ej
        split at ev
        · rename_i hz
          obtain ⟨e2, rfl⟩ := Rs.of_eq ev
          refine (pe_bm PySem.F.plainAttrs_list PySem.F.slot_list_pop PySem.F.type_list_pop mt_popAt (pe_var (i := i) hN hv k1 k2) (pa_cons he pa_nil (star_cons hst)) (by rfl) (few1 hst) hl (star_cons hst) (by rfl)).run pins s0 σ H Q I ⟨_, ea, .inl ⟨rfl, _, SqL.of ha⟩, F, G, θ, s, _, s1, R, e1, fun v H1 F1 θ1 R1 l1 p1 r1 => ?_⟩
          cases (show Rp _ _ _ _ _ from r1)
          obtain ⟨o1, hx, f, g, tt, xs, rfl, q⟩ := R1.ownAt en1 ea
          obtain ⟨g1, g2, g3, g4⟩ := ixN_seq ej
          have hn := line63
          rw [← q.length] at g1 g2 g3 g4 hz
          obtain ⟨v, ev2, rv⟩ := q.get e2
          refine ⟨a, xs, kk, j, v, rfl, rfl, hx, by omega, by omega, g1, ev2, ?_⟩
          exact k v _ F1 θ1 (R1.ownUpd (l' := .lst (l.eraseIdx j)) en1 ea ⟨_, rfl, q.eraseIdx j⟩) l1 p1 (RpV.of rv)
        · cases ev
      · cases ev
    · cases ev
  · cases ev
theorem sIsC {sc : Scope} (C : Cxt D gc cf X sc) {c : Str} {a : Ex} {z : Expr} {p q pos : Pos} (hc : c ∈ D.cl) (hg : Gl X "isinstance") (hm : X.mg "isinstance" = none) (hy : Gl X c) (hk : okN c = true) (hst : isStar z = false) (ha : PE X z (RE gc cf (MX D.cl X) a)) : Snd D gc cf X (.isC c a) (.Call (.Name "isinstance" p) [z, .Name c q] [] pos) := by
  obtain ⟨k1, k2⟩ := okN_ok hk
  refine Snd.mk1 ⟨fun pins s0 σ H Q I hh => ?_⟩ rfl (fun _ => rfl) (fun s => by simp only [evX, fin])
  obtain ⟨F, G, θ, s, t, s', R, ev, k⟩ := hh
  simp only [evX, fin] at ev
  obtain ⟨x1, s1, e1, ev⟩ := Rs.bind_eq ev
  obtain ⟨e2, rfl⟩ := Rs.of_eq ev
  obtain ⟨C0, c1, c2⟩ := C.cls c hc
  have hst2 := star_cons (es := [.Name c q]) (env := X.env) (e := z) hst
  refine (pe_callB (call_isi (X := X)) hg hm (by decide +kernel) (pa_cons ha (pa_cons (pe_glob (v := .ref C0) hy c1 (show RelV (.ref C0) (.ref C0) from rfl) k1) pa_nil (by rfl)) hst2) (by decide +kernel) (by decide +kernel) hst2 (by rfl)).run pins s0 σ H Q I ⟨F, G, θ, s, x1, _, R, e1, fun v H1 F1 θ1 R1 l1 p1 r1 => ?_⟩
  have hp : (s1.deref x1).pure = true := by
    cases e3 : s1.deref x1 <;> first | rfl | (rw [e3] at e2; cases e2)
  have rd := R1.read r1 hp
  have go : ∀ (T : Value) (bb : Bool), TyX X.K H1 v T → PySem.W.kitOne X.K T (.ref C0) = some bb → t = .bl bb → rIsi X.K [v, .ref C0] H1 Q := fun T bb h1 h2 h3 => by
    subst h3
    exact ⟨v, .ref C0, T, .ref C0, bb, rfl, .own C0, h1, h2, k _ H1 F1 θ1 R1 l1 p1 (RpV.of (.bl bb))⟩
  have kit : ∀ T ∈ (["NoneType", "bool", "int", "str", "list", "tuple", "dict"] : List String), PySem.W.kitOne X.K (.type T) (.ref C0) = some false := c2.kit
  have ty : ∀ {a : Addr} {xs : List V}, SqT X.K H1 a xs → TyX X.K H1 (.ref a) (.type "tuple") := by
    intro a xs q
    rcases q with (q | ⟨o, q⟩) | ⟨o, its, n, q, c, _⟩
    · exact .base (.tup q)
    · exact .fTuple q
    · exact .kTuple q c
  have hF := R1.m.fle
  cases e3 : s1.deref x1 with
  | non => rw [e3] at e2 rd; cases e2; cases nonH rd; exact go _ _ (.base .non) (kit _ (by simp)) rfl
  | bl y => rw [e3] at e2 rd; cases e2; cases blH rd; exact go _ _ (.base (.bl _)) (kit _ (by simp)) rfl
  | int y => rw [e3] at e2 rd; cases e2; cases intH rd; exact go _ _ (.base (.int _)) (kit _ (by simp)) rfl
  | str y => rw [e3] at e2 rd; cases e2; cases strH rd; exact go _ _ (.base (.str _)) (kit _ (by simp)) rfl
  | tup y => rw [e3] at e2 rd; cases e2; obtain ⟨a, xs, rfl, q, r, _⟩ := tupH rd hF; exact go _ _ (ty q) (kit _ (by simp)) rfl
  | lst y => rw [e3] at e2 rd; cases e2; obtain ⟨a, xs, rfl, q, r⟩ := rd; exact go _ _ (.base (.lst q)) (kit _ (by simp)) rfl
  | dk y z => rw [e3] at e2 rd; cases e2; obtain ⟨a, kvs, rfl, e, _⟩ := rd; exact go _ _ (.base (.dK e)) (kit _ (by simp)) rfl
  | flst y => rw [e3] at e2; cases e2
  | dt y z => rw [e3] at e2; cases e2
  | ins c' ns l =>
    rw [e3] at e2 rd
    cases e2
    obtain ⟨a, C1, dx, fs, rfl, h1, h2, h3, h4, h5⟩ := rd
    obtain ⟨C2, d1, d2⟩ := C.cls c' h2
    have e9 : C2 = C1 := by
      have := d1.symm.trans h3
      injection this with this
      injection this
    subst e9
    exact go _ _ (.base (.ins h1 d2.cl d2.ha d2.hn d2.htk d2.hm)) (C.kit2 c hc c' h2 C0 C2 c1 d1) rfl
  | ob y => rw [e3] at e2; cases e2
  | bor y => rw [e3] at e2; cases e2
theorem sMake {sc : Scope} (C : Cxt D gc cf X sc) {f : Nat} {es : List Ex} {xs : List Expr} {x : Str} {p pos : Pos} (hf : D.mks.lookup f = some x) (hg : Gl X x) (hk : okN x = true) (h : PA X xs (RA gc cf (MX D.cl X) es)) (hc : chks D X.N sc es xs = true) : Snd D gc cf X (.make f es) (.Call (.Name x p) xs [] pos) := by
  obtain ⟨k1, k2⟩ := okN_ok hk
  refine Snd.mk1 ⟨fun pins s0 σ H Q I hh => ?_⟩ rfl (fun _ => rfl) (fun s => by simp only [evX, fin])
  obtain ⟨F, G, θ, s, t, s', R, ev, k⟩ := hh
  simp only [evX, fin] at ev
  obtain ⟨ts, s1, e1, ev⟩ := Rs.bind_eq ev
  split at ev
  · rename_i hp
    split at ev
    · rename_i t' m e2
      cases ev
      obtain ⟨C0, fa, fd, ps, kk, hcl, hm, hM, hb, hr, hF, hlen⟩ := C.mkF f x hf ts s1.mem _ e2
      replace hb := hb.binds
      cases xs with
      | nil =>
        cases es with
        | cons _ _ => exact nomatch hc
        | nil =>
          simp only [evEs] at e1
          cases e1
          refine wpAny_Call_Name_kw (ld_glob I hg hm ?_ k1)
          refine PySem.W.callWith_K0 I.kIn hM.kp (run_makeG (us := []) hM hF hr C.gd hb I .nil fun xa dx nx nd ne => ?_)
          have RJ := (R.junk (o := .own xa) nd).junk (p := xa) (o := .ins C0 dx []) (by rw [upd_ne (Ne.symm ne)]; exact nx)
          refine ⟨by simpa using hlen, F, ownG s σ G _, θ, [], s.mem, _, m, xa, [], C0, dx, rfl, hcl, hm, upd_same, R.m.fle.none nx, ?_, R.m.noTh nx, RJ.out, .nil, e2, fun H' F' θ' M l' p' rr => ⟨rfl, ?_⟩⟩
          · cases eo : ownG s σ G (upd (upd H dx (.own xa)) xa (.ins C0 dx [])) xa with
            | none => rfl
            | some o =>
              have := RJ.out.gle xa o eo
              have h9 : ¬ ∃ (i : Nat) (l : Ob), s.env[i]? = some (Slot.own l) ∧ σ[i]? = some (some (V.ref xa)) := by
                rintro ⟨i, l, q1, q2⟩
                obtain ⟨zs, q, _⟩ := R.ownAt q1 q2
                rw [nx] at q
                cases q
              rw [ownG_not h9] at eo
              have := R.m.gle xa o eo
              rw [nx] at this
              cases this
          · exact k _ H' F' θ' (RJ.back M l' p') l' p' (RpV.of rr)
      | cons e es' =>
        cases es with
        | nil => exact nomatch hc
        | cons e0 es0 =>
          have hc' := hc
          simp only [chks] at hc'
          obtain ⟨h1, h2⟩ := and2 hc'
          obtain ⟨h1, h3⟩ := and2 h1
          refine (pe_makeG hM hF hr C.gd hg hm hb h k1 (star_cons (by simpa using h1)) (chks_plain h2)).run pins s0 σ H Q I ⟨F, G, θ, s, ts, s1, R, e1, fun vs H1 F1 θ1 R1 l1 p1 r1 => fun xa dx nx nd ne => ?_⟩
          have r := r1.rps hp
          have RJ := (R1.junk (o := .own xa) nd).junk (p := xa) (o := .ins C0 dx []) (by rw [upd_ne (Ne.symm ne)]; exact nx)
          refine ⟨by rw [List.length_cons, r.length, hlen], F1, ownG s1 σ G _, θ1, ts, s1.mem, _, m, xa, vs, C0, dx, rfl, hcl, hm, upd_same, R1.m.fle.none nx, ?_, R1.m.noTh nx, RJ.out, r, e2, fun H' F' θ' M l' p' rr => ⟨rfl, ?_⟩⟩
          · cases eo : ownG s1 σ G (upd (upd H1 dx (.own xa)) xa (.ins C0 dx [])) xa with
            | none => rfl
            | some o =>
              have h9 : ¬ ∃ (i : Nat) (l : Ob), s1.env[i]? = some (Slot.own l) ∧ σ[i]? = some (some (V.ref xa)) := by
                rintro ⟨i, l, q1, q2⟩
                obtain ⟨zs, q, _⟩ := R1.ownAt q1 q2
                rw [nx] at q
                cases q
              rw [ownG_not h9] at eo
              have := R1.m.gle xa o eo
              rw [nx] at this
              cases this
          · exact k _ H' F' θ' (RJ.back M l' p') (l1.trans l') (p1.trans p') (RpV.of rr)
    · cases ev
  · cases ev
theorem sMeth {sc : Scope} (C : Cxt D gc cf X sc) {m : Mt} {a : Ex} {es : List Ex} {x : Expr} {xs : List Expr} {ap cp : Pos} (hx : isCall x = false) (hl : (ap.endLine == cp.line) = true) (hn : xs.length < 10) (ha : PE X x (RE gc cf (MX D.cl X) a)) (h : PA X xs (RA gc cf (MX D.cl X) es)) (hc : chks D X.N sc es xs = true) :
    Snd D gc cf X (.meth m a es) (.Call (.Attribute x m.nm ap) xs [] cp) := by
  refine Snd.mk1 ⟨fun pins s0 σ H Q I hh => ?_⟩ rfl (fun _ => rfl) (fun s => by simp only [evX, fin])
  obtain ⟨F, G, θ, s, t, s', R, ev, k⟩ := hh
  simp only [evX, fin] at ev
  obtain ⟨x1, s1, e1, ev⟩ := Rs.bind_eq ev
  split at ev <;> first | (cases ev; done) | skip
  rename_i hrc
  obtain ⟨ts, s2, e2, ev⟩ := Rs.bind_eq ev
  split at ev
  · rename_i hp
    obtain ⟨hp1, hp2⟩ := and2 hp
    obtain ⟨e3, rfl⟩ := Rs.of_eq ev
    have hrp : (s1.deref x1).pure = true := by
      cases e9 : s1.deref x1 <;> first | rfl | (rw [e9] at hrc; cases m <;> cases hrc)
    cases es with
    | nil =>
      simp only [evEs] at e2
      cases e2
      exfalso
      revert e3
      rw [List.map_nil]
      unfold mtT
      split <;> (intro z; first | (cases z; done) | contradiction | skip)
    | cons e0 es0 =>
      cases xs with
      | nil => exact nomatch hc
      | cons y0 ys0 =>
        have hc' := hc
        simp only [chks] at hc'
        obtain ⟨h1, h2⟩ := and2 hc'
        obtain ⟨h1, h3⟩ := and2 h1
        have hst := star_cons (es := ys0) (env := X.env) (e := y0) (by simpa using h1)
        have hpl := chks_plain (env := X.env) (pos := cp) h2
        have hall : (backTo cp (starEach (y0 :: ys0) X.env)).all (fun x => !x.1) = true := by
          have q := chks_plain (env := X.env) (pos := cp) hc
          rw [List.all_eq_true]
          intro z hz
          have := List.any_eq_false.mp q z hz
          simpa using this
        have hfew : ((backTo cp (starEach (y0 :: ys0) X.env)).all (fun x => !x.1) && (backToKw cp (keywordEach [] X.env)).all (fun x => x.1.isSome) && decide ((y0 :: ys0).length + ([] : List Keyword).length + (if ([] : List Keyword).isEmpty then 0 else 1) < 30)) = true := by
          rw [hall, Bool.true_and, Bool.and_eq_true]
          exact ⟨rfl, decide_eq_true (by show (y0 :: ys0).length + 0 + 0 < 30; omega)⟩
        have rdr : ∀ v H1 F1 θ1, Rel (MX D.cl X) F1 G θ1 s1 σ H1 → FLe F F1 → θ <+: θ1 → RpV (MX D.cl X) F1 θ1 σ x1 v → ∀ {r : V → List V → Hp → VK → Prop}, (∀ vs H2, rMt (MX D.cl X) (s2.deref x1) (ts.map s2.deref) t v vs H2 Q → r v vs H2 Q) → RA gc cf (MX D.cl X) (e0 :: es0) σ H1 fun vs H2 => r v vs H2 Q := by
          intro v H1 F1 θ1 R1 l1 p1 r1 r hr
          exact ⟨F1, G, θ1, s1, ts, s2, R1, e2, fun vs H2 F2 θ2 R2 l2 p2 r2 => hr vs H2 ⟨F2, G, θ2, s2, σ, R2, R2.read (r1.mono l2 p2) hp1, R2.reads r2 hp2, fun u H' F' R' l' r' => k u H' F' θ2 R' (l1.trans (l2.trans l')) (p1.trans p2) (RpV.of r')⟩⟩
        -- what the receiver is, at its own time
        have strCase : ∀ {id : String}, m.sid = some id → PySem.Slot "str" m.nm id → typeOf (.builtin id) = pure (.type "method_descriptor") → wpAny (model X.prog X.w) X.A (eval (.Call (.Attribute x m.nm ap) (y0 :: ys0) [] cp) X.env) (EP X pins σ Q) X.xe s0 := by
          intro id hid sl ht
          obtain ⟨⟨z, hz⟩, hm⟩ := mtT_str (cl := D.cl) (X := X) hid e3
          refine (pe_bm PySem.F.plainAttrs_str sl ht hm ha h (attrBase hx) hfew hl hst hpl).run pins s0 σ H Q I ⟨F, G, θ, s, x1, s1, R, e1, fun v H1 F1 θ1 R1 l1 p1 r1 => ⟨?_, rdr v H1 F1 θ1 R1 l1 p1 r1 fun _ _ z => z⟩⟩
          have rd := R1.read r1 hrp
          cases e9 : s1.deref x1 with
          | str z' => rw [e9] at rd; cases strH rd; rfl
          | _ => exfalso; rw [e9] at hrc; cases m <;> first | (cases hrc; done) | (cases hid; done)
        cases m with
        | split => exact strCase rfl PySem.F.slot_str_split PySem.F.type_str_split
        | join => exact strCase rfl PySem.F.slot_str_join PySem.F.type_str_join
        | index => exact strCase rfl PySem.F.slot_str_index PySem.F.type_str_index
        | zfill => exact strCase rfl PySem.F.slot_str_zfill PySem.F.type_str_zfill
        | get =>
          obtain ⟨_, hm⟩ := mtT_get (cl := D.cl) (X := X) C.u64 e3
          refine (pe_mtD PySem.F.slot_dict_get PySem.F.type_dict_get hm ha h (attrBase hx) hfew hl hst hpl).run pins s0 σ H Q I ⟨F, G, θ, s, x1, s1, R, e1, fun v H1 F1 θ1 R1 l1 p1 r1 => ⟨?_, rdr v H1 F1 θ1 R1 l1 p1 r1 fun _ _ z => z⟩⟩
          refine isDd_of (K := MX D.cl X) R1.m.fle ?_ (R1.read r1 hrp)
          cases e9 : s1.deref x1 with
          | dk ks l => exact .inl ⟨_, _, rfl⟩
          | dt ks l => exact .inr ⟨_, _, rfl⟩
          | _ => exfalso; rw [e9] at hrc; cases hrc
  · cases ev
end
end Ev
/-! Soundness of expressions: comprehensions, the theorem. -/
namespace Ev
open PySem PySem.Spec L2
open PyProof.Rows hiding St
section
variable {D : Ds} {gc : Nat → Option Tr} {cf : CF} {X : Cx} {K : Mx} {F F' G H : Hp} {θ θ' : List Addr} {s : Sta} {σ : St}
theorem wipeE_len {env : List Slot} : ∀ own : List Nat, (wipeE env own).length = env.length
  | [] => rfl
  | v :: vs => by unfold wipeE; rw [List.length_set, wipeE_len vs]
theorem wipeE_get {env : List Slot} {i : Nat} {x : Slot} : ∀ {own : List Nat}, (wipeE env own)[i]? = some x → x = .none ∨ (env[i]? = some x ∧ i ∉ own)
  | [], h => .inr ⟨h, by simp⟩
  | v :: vs, h => by
    unfold wipeE at h
    rcases get_set h with ⟨_, e, _⟩ | ⟨ne, h⟩
    · exact .inl e
    · rcases wipeE_get h with z | ⟨z1, z2⟩
      · exact .inl z
      · exact .inr ⟨z1, by simp only [List.mem_cons, not_or]; exact ⟨fun e => ne e.symm, z2⟩⟩
/-- a block's state -/
theorem Rel.block {G2 H2 : Hp} {m : List Ob} {own : List Nat} (R : Rel K F G θ s σ H) (M : RelM K F' G2 θ' m H2) (hF : FLe F F') (hθ : θ <+: θ') (hG : FLe (ownG s σ G H) G2) : Rel K F' G2 θ' ⟨wipeE (s.env.map Slot.lock) own, m⟩ (wipe σ own) H2 := by
  have noOwn : ∀ (i : Nat) l, (wipeE (s.env.map Slot.lock) own)[i]? ≠ some (.own l) := fun i l h => by
    rcases wipeE_get h with z | ⟨z, _⟩
    · cases z
    · rw [List.getElem?_map] at z
      cases e : s.env[i]? with
      | none => rw [e] at z; cases z
      | some x =>
        rw [e] at z
        have z' : x.lock = .own l := Option.some.inj z
        cases x <;> cases z'
  refine ⟨M, by rw [wipeE_len, List.length_map, wipe_length]; exact R.len, fun i x e => ?_, fun i j l l' a e => absurd e (noOwn i l)⟩
  rcases wipeE_get e with rfl | ⟨z, hi⟩
  · exact trivial
  · rw [wipe_out hi]
    rw [List.getElem?_map] at z
    cases e1 : s.env[i]? with
    | none => rw [e1] at z; cases z
    | some y =>
      rw [e1] at z
      have z' : y.lock = x := Option.some.inj z
      have r := R.slot i y e1
      cases y with
      | none => cases z'; exact trivial
      | val t => cases z'; obtain ⟨w, e2, q⟩ := r; exact ⟨w, e2, q.mono hF hθ⟩
      | own l =>
        cases z'
        exact trivial
theorem lookup_relS_free {sc : Scope} : ∀ {names : List (Str × NameKind)} {x : Str}, names.lookup x = some .free →
    (names.map fun (n, k) => if (k == NameKind.free && sc.kind == .function && sc.names.lookup n == some .cell) then (n, NameKind.cell) else (n, k)).lookup x = some .free ∨
    (names.map fun (n, k) => if (k == NameKind.free && sc.kind == .function && sc.names.lookup n == some .cell) then (n, NameKind.cell) else (n, k)).lookup x = some .cell
  | [], _, h => by simp at h
  | (n, k) :: r, x, h => by
    have ih := @lookup_relS_free sc r x
    rw [List.map_cons]
    simp only
    cases hx : x == n with
    | true =>
      simp only [List.lookup_cons, hx] at h
      cases h
      split
      · exact .inr (by simp only [List.lookup_cons, hx])
      · exact .inl (by simp only [List.lookup_cons, hx])
    | false =>
      simp only [List.lookup_cons, hx] at h
      split
      · simp only [List.lookup_cons, hx]; exact ih h
      · simp only [List.lookup_cons, hx]; exact ih h
theorem compF_eq {tg : Tg} {env0 : List Slot} {cnd el : Sta → Rs Tr} {x : Tr} {m : List Ob} {r : Option Tr × List Ob} (h : compF tg env0 cnd el x m = some r) : ∃ env1 s2, asg tg x env0 = some env1 ∧
    ((cnd ⟨env1, m⟩ = .ok (.bl true) s2 ∧ ∃ y s3, el s2 = .ok y s3 ∧ y.pure = true ∧ r = (some y, s3.mem)) ∨ (cnd ⟨env1, m⟩ = .ok (.bl false) s2 ∧ r = (none, s2.mem))) := by
  unfold compF at h
  split at h
  · rename_i env1 e1
    split at h
    · rename_i s2 e2
      split at h
      · rename_i y s3 e3
        split at h
        · cases h
          exact ⟨env1, s2, e1, .inl ⟨e2, y, s3, e3, by assumption, rfl⟩⟩
        · cases h
      · cases h
    · rename_i s2 e2
      cases h
      exact ⟨env1, s2, e1, .inr ⟨e2, rfl⟩⟩
    · cases h
  · cases h
theorem wipe_in {i : Nat} : ∀ {vs : List Nat} {σ : St}, i ∈ vs → i < σ.length → (wipe σ vs)[i]? = some none
  | v :: vs, σ, h, hl => by
    unfold wipe
    by_cases e : v = i
    · subst e
      rw [List.getElem?_set_self (by rw [wipe_length]; exact hl)]
    · rw [List.getElem?_set_ne e]
      rcases List.mem_cons.mp h with z | z
      · exact absurd z.symm e
      · exact wipe_in z hl
theorem wipe_wipe {vs : List Nat} {σ : St} : wipe (wipe σ vs) vs = wipe σ vs := by
  apply List.ext_getElem?
  intro i
  by_cases h : i ∈ vs
  · by_cases hl : i < σ.length
    · rw [wipe_in h (by rw [wipe_length]; exact hl), wipe_in h hl]
    · rw [List.getElem?_eq_none (by rw [wipe_length, wipe_length]; omega), List.getElem?_eq_none (by rw [wipe_length]; omega)]
  · rw [wipe_out h]
theorem compRead {K : Mx} {k : Nat} {elt cond : Ex} {tg : Tg} {its : List Ex} {own : List Nat} {tt : TT} (hin : tgIn own tg = true)
    (hC2 : ∀ {σ : St} {H : Hp} {Q : Bool → Hp → Prop} {F G : Hp} {θ : List Addr} {s : Sta} {b : Bool} {s' : Sta}, Rel K F G θ s σ H → (if isNul cond then .ok (.bl true) s else evX gc cf cond true s) = .ok (.bl b) s' → (∀ H' F' θ', Rel K F' G θ' s' σ H' → FLe F F' → θ <+: θ' → Q b H') → tt σ H Q)
    {σ : St} {H : Hp} {Q : VK} (hh : RE gc cf K (.comp k elt tg its cond own) σ H Q) : tLc (RI gc cf K k its) (RG K tg) tt (RE gc cf K elt) own σ H Q := by
  obtain ⟨F, G, θ, s, t, s', R, ev, kk⟩ := hh
  simp only [evX, fin] at ev
  obtain ⟨vs, s1, e1, ev⟩ := Rs.bind_eq ev
  split at ev
  · rename_i xs hi
    split at hi
    · rename_i hp
      split at ev
      · rename_i ys mf ec
        cases ev
        refine ⟨F, G, θ, s, vs, s1, xs, R, e1, hp, hi, fun J H1 F1 θ1 R1 l1 p1 wk => fun Da nD => ?_⟩
        have gD : ownG s1 σ G H1 Da = none := R1.out.gle.none nD
        refine lc_it wk (fun i H' => ∃ F' θ' m acc av, RelM K F' (ownG s1 σ G H1) θ' m H' ∧ FLe F1 F' ∧ θ1 <+: θ' ∧ H' Da = some (.lst av) ∧ Rps K F' θ' acc av ∧ F' Da = none ∧ Da ∉ θ' ∧
          compGo (compF tg (wipeE (s1.env.map Slot.lock) own) (fun s => if isNul cond then .ok (.bl true) s else evX gc cf cond true s) (fun s => evX gc cf elt false s)) (xs.drop i) m acc = some (ys, mf)) ?_ ?_ ?_ ?_
        · have fD := R1.m.fle.none nD
          have tD : Da ∉ θ1 := R1.m.noTh nD
          exact ⟨F1, θ1, s1.mem, [], [], R1.out.junk nD, FLe.refl _, List.prefix_refl _, upd_same, .nil, fD, tD, ec⟩
        · rintro i H' _ ⟨F', θ', m, acc, av, M, l', _⟩
          exact ⟨l'.trans M.fle, .inr M.gle⟩
        · rintro i x H' H'' hlt ⟨F', θ', m, acc, av, M, l', p', hD, ra, fD, tD, eg⟩ ⟨t, ht, hy⟩
          have ed : xs.drop i = t :: xs.drop (i + 1) := by
            obtain ⟨h1, h2⟩ := List.getElem?_eq_some_iff.mp ht
            rw [List.drop_eq_getElem_cons h1, h2]
          rw [ed] at eg
          simp only [compGo] at eg
          have M2 := M.guard hD fD tD
          obtain ⟨F2, lF2, M3, rt⟩ : ∃ F2, FLe F' F2 ∧ RelM K F2 (upd (ownG s1 σ G H1) Da (.lst av)) θ' m H'' ∧ Rp K F2 θ' t x := by
            rcases hy with ⟨rfl, rr⟩ | ⟨p, l, ws, np, rfl, rfl, rfl, rr, _⟩
            · exact ⟨F', FLe.refl _, M2, rr.mono l' p'⟩
            · have fp := M2.fle.none np
              exact ⟨_, FLe.upd1 fp, M2.newF np, .tup (SqT.of upd_same) (rr.mono (l'.trans (FLe.upd1 fp)) p')⟩
          cases ef : compF tg (wipeE (s1.env.map Slot.lock) own) (fun s => if isNul cond then .ok (.bl true) s else evX gc cf cond true s) (fun s => evX gc cf elt false s) t m with
          | none => rw [ef] at eg; cases eg
          | some r =>
            rw [ef] at eg
            obtain ⟨env1, s2, ea, hcase⟩ := compF_eq ef
            have RB := R1.block (own := own) M3 (l'.trans lF2) p' (FLe.upd1 gD)
            refine ⟨F2, _, θ', _, m, t, env1, RB, rt, ea, fun σ2 R2 hw => ⟨(hw own hin).trans wipe_wipe, ?_⟩⟩
            rcases hcase with ⟨ecnd, y, s3, eel, py, rfl⟩ | ⟨ecnd, rfl⟩ <;> dsimp only at eg
            · refine hC2 R2 ecnd fun H3 F3 θ3 R3 l3 p3 => ?_
              rw [if_pos rfl]
              refine ⟨F3, _, θ3, s2, y, s3, R3, eel, fun v H4 F4 θ4 R4 l4 p4 r4 => ?_⟩
              have hD4 : H4 Da = some (.lst av) := R4.m.gle Da _ upd_same
              have lF4 : FLe F' F4 := lF2.trans (l3.trans l4)
              have pθ4 : θ' <+: θ4 := p3.trans p4
              split at eg
              · rename_i hsz
                refine ⟨av, hD4, by rw [ra.length]; exact hsz, F4, θ4, s3.mem, acc ++ [y], av ++ [v], R4.m.unguard gD, l'.trans lF4, p'.trans pθ4, upd_same, (ra.mono lF4 pθ4).append (.cons (r4.rp py) .nil), R4.m.fg Da _ upd_same, R4.m.gth (a := Da) upd_same, eg⟩
              · cases eg
            · refine hC2 R2 ecnd fun H3 F3 θ3 R3 l3 p3 => ?_
              rw [if_neg Bool.false_ne_true]
              exact ⟨F3, θ3, s2.mem, acc, av, R3.m.letgo gD, l'.trans (lF2.trans l3), p'.trans p3, R3.m.gle Da _ upd_same, ra.mono (lF2.trans l3) p3, R3.m.fg Da _ upd_same, R3.m.gth (a := Da) upd_same, eg⟩
        · rintro H' ⟨F', θ', m, acc, av, M, l', p', hD, ra, fD, tD, eg⟩
          rw [List.drop_length] at eg
          simp only [compGo] at eg
          cases eg
          have B := R1.back M l' p'
          refine kk _ H' _ θ' (B.fix hD fD (R1.m.gle.none nD) tD fun i l e z => ?_) (l1.trans (l'.trans (FLe.upd1 fD))) (p1.trans p') (RpV.of (.lst upd_same (ra.mono (FLe.upd1 fD) (List.prefix_refl _))))
          obtain ⟨zs, q, _⟩ := R1.ownAt e z
          rw [nD] at q
          cases q
      · cases ev
    · cases hi
  · cases ev
theorem sComp {sc : Scope} (C : Cxt D gc cf X sc) {k : Nat} {elt cond : Ex} {tg : Tg} {its : List Ex} {own : List Nat} {e' tg' iter : Expr} {ifs : List Expr} {scope : Scope} {pos : Pos} {tt : TT} (hI : PI X tg' iter (RI gc cf (MX D.cl X) k its)) (hb : blkC X.N sc scope (own.map fun i => (X.N.getD i "", i)) = true)
    (hS : isSetE iter = false) (hin : tgIn own tg = true) (hE : ∀ X' : Cx, Cxt D gc cf X' scope → X'.N = X.N → MX D.cl X' = MX D.cl X → Snd D gc cf X' elt e') (hT : chkT X.N scope tg tg' = true)
    (hC1 : ∀ X' : Cx, Cxt D gc cf X' scope → X'.N = X.N → MX D.cl X' = MX D.cl X → PTs X' ifs tt)
    (hC2 : ∀ {σ : St} {H : Hp} {Q : Bool → Hp → Prop} {F G : Hp} {θ : List Addr} {s : Sta} {b : Bool} {s' : Sta}, Rel (MX D.cl X) F G θ s σ H → (if isNul cond then .ok (.bl true) s else evX gc cf cond true s) = .ok (.bl b) s' → (∀ H' F' θ', Rel (MX D.cl X) F' G θ' s' σ H' → FLe F F' → θ <+: θ' → Q b H') → tt σ H Q) :
    Snd D gc cf X (.comp k elt tg its cond own) (.ListComp e' [⟨tg', iter, ifs, 0⟩] scope pos) := by
  have bx : ∀ (s : Shared) (H : Hp) (Ca : Addr) (cl : List (Str × Addr)) (fp : List Addr), Cxt D gc cf (X.blk s H scope (compEnvC scope cl Ca X.env) fp) scope := fun s H Ca cl fp => by
    have keep : ∀ x k, k ≠ .free → scope.names.lookup x = some k → (compEnvC scope cl Ca X.env).scope.names.lookup x = some k := fun x k hk h => lookup_relS_keep (sc := X.env.scope) hk h
    have free : ∀ x, scope.names.lookup x = some .free → (compEnvC scope cl Ca X.env).scope.names.lookup x = some .free ∨ (compEnvC scope cl Ca X.env).scope.names.lookup x = some .cell := fun x h => lookup_relS_free (sc := X.env.scope) h
    refine ⟨C.nd, C.calm, C.gd, rfl, fun x h => ?_, fun x h => ?_, fun x h => ?_, fun sc2 own2 h => ?_, C.gl, C.cls, C.kit2, C.mkF, C.blt, C.un, C.fn, C.fnP⟩
    · rcases visB_ok h with z | z | z
      · exact .inl (keep x _ (by decide) z)
      · exact .inr (.inl (keep x _ (by decide) z))
      · rcases free x z with q | q
        · exact .inr (.inr q)
        · exact .inr (.inl q)
    · rcases locB_ok h with z | z
      · exact ⟨.inl (keep x _ (by decide) z), .inr (keep x _ (by decide) z)⟩
      · refine ⟨.inr (keep x _ (by decide) z), .inl ?_⟩
        show (scope.names.lookup x == some .cell) = true
        rw [z]
        rfl
    · unfold glB at h
      split at h
      · rename_i z
        exact keep x _ (by decide) z
      · cases h
    · have b := blkOk_by h
      refine ⟨b.kind, b.uniq, b.ix, fun y hy e => ?_, b.own⟩
      rcases b.free y hy e with z | z
      · exact .inl (keep _ _ (by decide) z)
      · rcases free _ z with q | q
        · exact .inr q
        · exact .inl q
  have hs : ∀ x, foldedSetIterable iter X.env x = pure x := fun x => by cases iter <;> first | rfl | (exact nomatch hS)
  have P := pe_lc (g := RG (MX D.cl X) tg) (tt := tt) (te := RE gc cf (MX D.cl X) elt) (pos := pos) C.calm C.nd hI (C.blk _ _ hb)
    (fun s H Ca cl fp => sT (cl := D.cl) (X := X.blk s H scope (compEnvC scope cl Ca X.env) fp) C.nd C.calm (bx s H Ca cl fp).loc tg tg' hT)
    (fun s H Ca cl fp => hC1 _ (bx s H Ca cl fp) rfl rfl) (fun s H Ca cl fp => (hE _ (bx s H Ca cl fp) rfl rfl).pe) hs
  have eo : (own.map fun i => (X.N.getD i "", i)).map (·.2) = own := by rw [List.map_map]; simp [Function.comp_def]
  rw [eo] at P
  exact Snd.mk1 ⟨fun pins s0 σ H Q I hh => P.run pins s0 σ H Q I (compRead hin hC2 hh)⟩ rfl (fun _ => rfl) (fun s => by simp only [evX, fin])
theorem sSetComp {sc : Scope} (C : Cxt D gc cf X sc) {k : Nat} {elt cond : Ex} {tg : Tg} {its : List Ex} {own : List Nat} {e' tg' iter : Expr} {ifs : List Expr} {scope : Scope} {pos : Pos} {tt : TT} (hI : PI X tg' iter (RI gc cf (MX D.cl X) k its)) (hb : blkC X.N sc scope (own.map fun i => (X.N.getD i "", i)) = true)
    (hS : isSetE iter = false) (hin : tgIn own tg = true) (hE : ∀ X' : Cx, Cxt D gc cf X' scope → X'.N = X.N → MX D.cl X' = MX D.cl X → Snd D gc cf X' elt e') (hT : chkT X.N scope tg tg' = true)
    (hC1 : ∀ X' : Cx, Cxt D gc cf X' scope → X'.N = X.N → MX D.cl X' = MX D.cl X → PTs X' ifs tt)
    (hC2 : ∀ {σ : St} {H : Hp} {Q : Bool → Hp → Prop} {F G : Hp} {θ : List Addr} {s : Sta} {b : Bool} {s' : Sta}, Rel (MX D.cl X) F G θ s σ H → (if isNul cond then .ok (.bl true) s else evX gc cf cond true s) = .ok (.bl b) s' → (∀ H' F' θ', Rel (MX D.cl X) F' G θ' s' σ H' → FLe F F' → θ <+: θ' → Q b H') → tt σ H Q)
    {i : Nat} {y : Str} {py spos : Pos} (hy : X.N[i]? = some y) (hyl : X.env.scope.names.lookup y = some .local) (hsw : swapsWith (.ListComp e' [⟨tg', iter, ifs, 0⟩] scope pos) (some (.Name y py)) spos.line X.env = pure true) :
    ∃ t, PS X (.Assign [.Name y py] (.ListComp e' [⟨tg', iter, ifs, 0⟩] scope pos) spos) (tAsg t (gName i)) ∧ ∀ {σ : St} {H : Hp} {Q : VK}, RE gc cf (MX D.cl X) (.comp k elt tg its cond own) σ H Q → t σ H Q := by
  have bx : ∀ (s : Shared) (H : Hp) (Ca : Addr) (cl : List (Str × Addr)) (fp : List Addr), Cxt D gc cf (X.blk s H scope (compEnvC scope cl Ca X.env) fp) scope := fun s H Ca cl fp => by
    have keep : ∀ x k, k ≠ .free → scope.names.lookup x = some k → (compEnvC scope cl Ca X.env).scope.names.lookup x = some k := fun x k hk h => lookup_relS_keep (sc := X.env.scope) hk h
    have free : ∀ x, scope.names.lookup x = some .free → (compEnvC scope cl Ca X.env).scope.names.lookup x = some .free ∨ (compEnvC scope cl Ca X.env).scope.names.lookup x = some .cell := fun x h => lookup_relS_free (sc := X.env.scope) h
    refine ⟨C.nd, C.calm, C.gd, rfl, fun x h => ?_, fun x h => ?_, fun x h => ?_, fun sc2 own2 h => ?_, C.gl, C.cls, C.kit2, C.mkF, C.blt, C.un, C.fn, C.fnP⟩
    · rcases visB_ok h with z | z | z
      · exact .inl (keep x _ (by decide) z)
      · exact .inr (.inl (keep x _ (by decide) z))
      · rcases free x z with q | q
        · exact .inr (.inr q)
        · exact .inr (.inl q)
    · rcases locB_ok h with z | z
      · exact ⟨.inl (keep x _ (by decide) z), .inr (keep x _ (by decide) z)⟩
      · refine ⟨.inr (keep x _ (by decide) z), .inl ?_⟩
        show (scope.names.lookup x == some .cell) = true
        rw [z]
        rfl
    · unfold glB at h
      split at h
      · rename_i z
        exact keep x _ (by decide) z
      · cases h
    · have b := blkOk_by h
      refine ⟨b.kind, b.uniq, b.ix, fun y hy e => ?_, b.own⟩
      rcases b.free y hy e with z | z
      · exact .inl (keep _ _ (by decide) z)
      · rcases free _ z with q | q
        · exact .inr q
        · exact .inl q
  have hs : ∀ x, foldedSetIterable iter X.env x = pure x := fun x => by cases iter <;> first | rfl | (exact nomatch hS)
  have P := ps_setLc (g := RG (MX D.cl X) tg) (tt := tt) (te := RE gc cf (MX D.cl X) elt) C.calm C.nd hy hyl hsw hI (C.blk _ _ hb)
    (fun s H Ca cl fp => sT (cl := D.cl) (X := X.blk s H scope (compEnvC scope cl Ca X.env) fp) C.nd C.calm (bx s H Ca cl fp).loc tg tg' hT)
    (fun s H Ca cl fp => hC1 _ (bx s H Ca cl fp) rfl rfl) (fun s H Ca cl fp => (hE _ (bx s H Ca cl fp) rfl rfl).pe) hs
  have eo : (own.map fun i => (X.N.getD i "", i)).map (·.2) = own := by rw [List.map_map]; simp [Function.comp_def]
  rw [eo] at P
  exact ⟨_, P, fun hh => compRead hin hC2 hh⟩
end
end Ev
/-! Soundness of expressions: the theorem. -/
namespace Ev
open PySem PySem.Spec L2
open PyProof.Rows hiding St
section
variable {D : Ds} {gc : Nat → Option Tr} {cf : CF} {K : Mx} {F F' G H : Hp} {θ θ' : List Addr} {s : Sta} {σ : St}
theorem sRev {X : Cx} {a : Ex} {x : Expr} {k : Nat} {p1 p2 p3 pos : Pos} (ha : PE X x (RE gc cf (MX D.cl X) a)) : Snd D gc cf X (.rev a) (.Subscript x (.Slice none none (some (.UnaryOp .USub (.Constant (.int 1) k p1) p2)) p3) pos) := by
  refine Snd.mk1 ⟨fun pins s0 σ H Q I hh => ?_⟩ rfl (fun _ => rfl) (fun s => by simp only [evX, fin])
  obtain ⟨F, G, θ, s, t, s', R, ev, kk⟩ := hh
  simp only [evX, fin] at ev
  obtain ⟨x1, s1, e1, ev⟩ := Rs.bind_eq ev
  split at ev
  · rename_i l e2
    cases ev
    refine (pe_revL ha).run pins s0 σ H Q I ⟨F, G, θ, s, x1, _, R, e1, fun v H1 F1 θ1 R1 l1 p1 r1 => ?_⟩
    have rr := R1.read r1 (by rw [e2]; rfl)
    rw [e2] at rr
    obtain ⟨a, xs, rfl, q, r⟩ := rr
    exact ⟨a, xs, rfl, SqL.of q, fun p np => Fin.lst (fun u H' F' R' l' r' => kk u H' F' θ1 R' (l1.trans l') p1 (RpV.of r')) R1 np r.reverse⟩
  · rename_i l e2
    cases ev
    refine (pe_revT ha).run pins s0 σ H Q I ⟨F, G, θ, s, x1, _, R, e1, fun v H1 F1 θ1 R1 l1 p1 r1 => ?_⟩
    have rr := R1.read r1 (by rw [e2]; rfl)
    rw [e2] at rr
    obtain ⟨a, xs, rfl, q, r, _⟩ := tupH rr R1.m.fle
    exact ⟨a, xs, rfl, q, fun p np => Fin.tup (fun u H' F' R' l' r' => kk u H' F' θ1 R' (l1.trans l') p1 (RpV.of r')) R1 np r.reverse⟩
  · cases ev
theorem RpVs.ofs {K : Mx} {F : Hp} {θ : List Addr} {σ : L2.St} : ∀ {ts : List Tr} {vs : List V}, Rps K F θ ts vs → RpVs K F θ σ ts vs
  | _, _, .nil => .nil
  | _, _, .cons a b => .cons (RpV.of a) (RpVs.ofs b)
def RAS (gc : Nat → Option Tr) (cf : CF) (K : Mx) (es : List Ex) (bs : List Bool) : TA := fun σ H Q => ∃ F G θ s ts s', Rel K F G θ s σ H ∧ evSt gc cf es bs s = .ok ts s' ∧ ∀ vs H' F' θ', Rel K F' G θ' s' σ H' → FLe F F' → θ <+: θ' → RpVs K F' θ' σ ts vs → Q vs H'
theorem sDispT {X : Cx} {es : List Ex} {bs : List Bool} {xs : List Expr} {kk : Nat} {pos : Pos} (h : PA X xs (RAS gc cf (MX D.cl X) es bs)) : Snd D gc cf X (.disp 0 bs es) (.Tuple xs kk pos) := by
  refine Snd.mk1 ⟨fun pins s0 σ H Q I hh => ?_⟩ rfl (fun _ => rfl) (fun s => by simp only [evX, fin])
  obtain ⟨F, G, θ, s, t, s', R, ev, k⟩ := hh
  simp only [evX, fin] at ev
  obtain ⟨ts, s1, e1, ev⟩ := Rs.bind_eq ev
  split at ev
  · rename_i hc
    obtain ⟨h1, h2⟩ := all_pure hc
    cases ev
    refine (pe_tup h).run pins s0 σ H Q I ⟨F, G, θ, s, ts, _, R, e1, fun vs H1 F1 θ1 R1 l1 p1 r1 => ?_⟩
    have r := r1.rps h1
    refine ⟨by rw [r.length]; exact h2, fun p np => ?_⟩
    have f := R1.m.fle.none np
    exact k _ _ _ θ1 (R1.newF np) (l1.trans (FLe.upd1 f)) p1 (RpV.of (.tup (SqT.of upd_same) (r.mono (FLe.upd1 f) (List.prefix_refl _))))
  · cases ev
theorem sDispL {X : Cx} {k : Nat} {es : List Ex} {bs : List Bool} {xs : List Expr} {pos : Pos} (hk : k ≠ 0) (h : PA X xs (RAS gc cf (MX D.cl X) es bs)) : Snd D gc cf X (.disp k bs es) (.List xs pos) := by
  refine Snd.mk1 ⟨fun pins s0 σ H Q I hh => ?_⟩ rfl (fun _ => rfl) (fun s => by simp only [evX, fin])
  obtain ⟨F, G, θ, s, t, s', R, ev, kk⟩ := hh
  simp only [evX, fin] at ev
  obtain ⟨ts, s1, e1, ev⟩ := Rs.bind_eq ev
  split at ev
  · rename_i hc
    obtain ⟨h1, h2⟩ := all_pure hc
    split at ev
    · exact absurd rfl hk
    · cases ev
      refine (pe_lst h).run pins s0 σ H Q I ⟨F, G, θ, s, ts, _, R, e1, fun vs H1 F1 θ1 R1 l1 p1 r1 => ?_⟩
      have r := r1.rps h1
      refine ⟨by rw [r.length]; exact h2, fun p np => ?_⟩
      have f := R1.m.fle.none np
      exact kk _ _ _ θ1 (R1.newF np) (l1.trans (FLe.upd1 f)) p1 (RpV.of (.lst upd_same (r.mono (FLe.upd1 f) (List.prefix_refl _))))
    · cases ev
      refine (pe_lst h).run pins s0 σ H Q I ⟨F, G, θ, s, ts, s1, R, e1, fun vs H1 F1 θ1 R1 l1 p1 r1 => ?_⟩
      have r := r1.rps h1
      refine ⟨by rw [r.length]; exact h2, fun p np => ?_⟩
      have hl := R1.m.len
      refine kk _ _ _ _ (R1.share (l := .lst ts) np ⟨vs, rfl, r⟩) l1 (p1.trans (List.prefix_append _ _)) (RpV.of (.ob ?_))
      rw [hl]
      simp
  · cases ev
/-! displays of dicts -/
def flatP (ps : List (V × V)) : List V := ps.flatMap fun p => [p.1, p.2]
def PsRead (gc : Nat → Option Tr) (cf : CF) (K : Mx) (es : List Ex) (trs : List (TE × TE)) : Prop := ∀ (σ : L2.St) (H : Hp) (Q : List (V × V) → Hp → Prop) (F G : Hp) (θ : List Addr) (s : Sta) (ts : List Tr) (s' : Sta), Rel K F G θ s σ H → evEs gc cf es s = .ok ts s' →
  (∀ ps H' F' θ', Rel K F' G θ' s' σ H' → FLe F F' → θ <+: θ' → RpVs K F' θ' σ ts (flatP ps) → Q ps H') → tPairs trs σ H Q
theorem mergeK_nodup : ∀ (more acc : List (Key × V)), ((acc ++ more).map (·.1)).Nodup → mergeK acc more = acc ++ more
  | [], acc, _ => by rw [List.append_nil]; rfl
  | p :: more, acc, h => by
    have hn : valV acc p.1 = none := by
      cases e : valV acc p.1 with
      | none => rfl
      | some v =>
        exfalso
        unfold valV at e
        obtain ⟨q, h1, _⟩ := Option.map_eq_some_iff.mp e
        have h2 := List.mem_of_find?_eq_some h1
        have h3 := List.find?_some h1
        have h4 : q.1 = p.1 := of_decide_eq_true h3
        rw [List.map_append, List.nodup_append] at h
        exact h.2.2 q.1 (List.mem_map.mpr ⟨q, h2, rfl⟩) p.1 (by simp) h4
    show mergeK (putK acc p.1 p.2) more = _
    rw [putK_new p.2 hn, mergeK_nodup more (acc ++ [(p.1, p.2)]) (by rw [List.append_assoc]; exact h), List.append_assoc]
    rfl
theorem dspT_ok {K : Mx} {F : Hp} {θ : List Addr} {σ : L2.St} : ∀ {ts : List Tr} {ks : List Key} {ls : List Tr} {ps : List (V × V)}, dspT ts = some (ks, ls) → ts.all Tr.pure = true → RpVs K F θ σ ts (flatP ps) → ∃ kvs : List (Key × V), ps = kvs.map (fun kv => (kV kv.1, kv.2)) ∧ kvs.map (·.1) = ks ∧ Rps K F θ ls (kvs.map (·.2))
  | [], ks, ls, ps, h, _, r => by
    simp only [dspT] at h
    cases h
    cases ps with
    | nil => exact ⟨[], rfl, rfl, .nil⟩
    | cons p ps => cases r
  | [_], ks, ls, ps, h, _, r => by simp only [dspT] at h; cases h
  | k :: v :: ts, ks, ls, ps, h, hp, r => by
    simp only [dspT] at h
    split at h
    · rename_i k' ks' ls' h1 h2
      cases h
      cases ps with
      | nil => cases r
      | cons p ps =>
        have r' : RpVs K F θ σ (k :: v :: ts) (p.1 :: p.2 :: flatP ps) := r
        rw [List.all_cons, List.all_cons, Bool.and_eq_true, Bool.and_eq_true] at hp
        cases r' with
        | cons r1 r2 =>
          cases r2 with
          | cons r2 r3 =>
            obtain ⟨kvs, e1, e2, e3⟩ := dspT_ok h2 hp.2.2 r3
            have ek9 : ∀ z : V, Rp K F θ k z → z = kV k' := by
              intro z q1
              cases k with
              | int i => cases q1; cases h1; rfl
              | str i => cases q1; cases h1; rfl
              | _ => cases h1
            have ek := ek9 _ (r1.rp hp.1)
            refine ⟨(k', p.2) :: kvs, ?_, by rw [List.map_cons, e2], .cons (r2.rp hp.2.1) e3⟩
            rw [List.map_cons, ← e1, ← ek]
    · cases h
theorem chkPs_facts {N : List Str} {sc : Scope} : ∀ {es : List Ex} {ks : List (Option Expr)} {vs : List Expr}, chkPs D N sc es ks vs = true → ks.all (·.isSome) = true ∧ ks.length = vs.length ∧ (es ≠ [] → ks ≠ [])
  | [], ks, vs, h => by
    simp only [chkPs] at h
    split at h
    · exact ⟨rfl, rfl, fun z => absurd rfl z⟩
    · cases h
  | [_], ks, vs, h => by simp only [chkPs] at h; cases h
  | a :: b :: es, ks, vs, h => by
    simp only [chkPs] at h
    split at h
    · obtain ⟨q1, q2, _⟩ := chkPs_facts (and2 h).2
      exact ⟨by rw [List.all_cons, q1]; rfl, by rw [List.length_cons, List.length_cons, q2], fun _ => by simp⟩
    · cases h
theorem sDsp {X : Cx} {sc : Scope} {es : List Ex} {ks : List (Option Expr)} {vs : List Expr} {pos : Pos} {trs : List (TE × TE)} (hP : PPs X pos ks vs trs) (hR : PsRead gc cf (MX D.cl X) es trs) (hc : chkPs D X.N sc es ks vs = true) (h15 : ks.length ≤ 15) : Snd D gc cf X (.dsp es) (.Dict ks vs pos) := by
  obtain ⟨g1, g2, g3⟩ := chkPs_facts hc
  refine Snd.mk1 ⟨fun pins s0 σ H Q I hh => ?_⟩ rfl (fun _ => rfl) (fun s => by simp only [evX, fin])
  obtain ⟨F, G, θ, s, t, s', R, ev, k⟩ := hh
  simp only [evX, fin] at ev
  obtain ⟨ts, s1, e1, ev⟩ := Rs.bind_eq ev
  split at ev
  · rename_i hp
    split at ev
    · rename_i kks ls e2
      split at ev
      · rename_i hn
        cases ev
        cases es with
        | nil =>
          simp only [evEs] at e1
          cases e1
          simp only [dspT] at e2
          cases e2
          have h0 : ks = [] ∧ vs = [] := by
            simp only [chkPs] at hc
            split at hc
            · exact ⟨rfl, rfl⟩
            · cases hc
          obtain ⟨rfl, rfl⟩ := h0
          refine pe_dnewK.run pins s0 σ H Q I fun p np => ?_
          have f := R.m.fle.none np
          exact k _ _ _ θ (R.newF np) (FLe.upd1 f) (List.prefix_refl _) (RpV.of (.dk (kvs := []) upd_same rfl .nil))
        | cons e0 es0 =>
          refine (pe_disp hP g1 g2 (g3 (by simp)) h15).run pins s0 σ H Q I fun p np => ?_
          have gp : G p = none := R.m.gle.none np
          refine hR σ _ _ F (upd G p (.dK [])) θ s ts _ (R.pend np) e1 fun ps H2 F2 θ2 R2 l2 p2 r2 => ?_
          obtain ⟨kvs, q1, q2, q3⟩ := dspT_ok e2 hp r2
          have hl : kvs.length ≤ 15 := by rw [← List.length_map (f := (·.1)), q2]; exact hn.2
          refine ⟨R2.m.gle p _ upd_same, kvs, q1, hl, ?_⟩
          have f2 : F2 p = none := R2.m.fg p _ upd_same
          rw [mergeK_nodup kvs [] (by rw [List.nil_append, q2]; exact hn.1), List.nil_append]
          exact k _ _ _ θ2 (R2.pendDone gp) (l2.trans (FLe.upd1 f2)) p2 (RpV.of (.dk (kvs := kvs) upd_same q2 (q3.mono (FLe.upd1 f2) (List.prefix_refl _))))
      · cases ev
    · cases ev
  · cases ev
theorem lastM {op op' : CmpOp} {y z : Expr} (h : behindInMarks op' z = false) : lastMarks [op, op'] [y, z] = false := h
mutual
theorem sX : ∀ (e : Ex) (X : Cx) (sc : Scope) (ex : Expr), Cxt D gc cf X sc → chk D X.N sc e ex = true → Snd D gc cf X e ex
  | .var i, X, sc, ex, C, h => by
    simp only [chk] at h
    split at h
    · obtain ⟨h1, h2⟩ := and2 h
      obtain ⟨h1, h3⟩ := and2 h1
      exact sSlot (of_decide_eq_true h1) (C.vis _ h3) h2
    · cases h
  | .mv i, X, sc, ex, C, h => by
    simp only [chk] at h
    split at h
    · obtain ⟨h1, h2⟩ := and2 h
      obtain ⟨h1, h3⟩ := and2 h1
      exact sMv (of_decide_eq_true h1) (C.vis _ h3) h2
    · cases h
  | .gl k, X, sc, ex, C, h => by
    simp only [chk] at h
    split at h
    · obtain ⟨h1, h2⟩ := and2 h
      obtain ⟨h1, h3⟩ := and2 h1
      exact sGl C (of_decide_eq_true h1) (C.glo _ h3) h2
    · cases h
  | .int i, X, sc, ex, C, h => by
    simp only [chk] at h
    split at h
    · obtain rfl := of_decide_eq_true h
      exact sConst pe_int (fun _ _ => .int _) (fun s => by simp only [evX, fin]) rfl (fun _ => rfl) (fun s => by simp only [evX, fin])
    · cases h
  | .str z, X, sc, ex, C, h => by
    simp only [chk] at h
    split at h
    · obtain rfl := of_decide_eq_true h
      exact sConst pe_str (fun _ _ => .str _) (fun s => by simp only [evX, fin]) rfl (fun _ => rfl) (fun s => by simp only [evX, fin])
    · cases h
  | .bl b, X, sc, ex, C, h => by
    simp only [chk] at h
    split at h
    · obtain rfl := of_decide_eq_true h
      exact sConst pe_bl (fun _ _ => .bl _) (fun s => by simp only [evX, fin]) rfl (fun _ => rfl) (fun s => by simp only [evX, fin])
    · cases h
  | .non, X, sc, ex, C, h => by
    simp only [chk] at h
    split at h
    · exact sConst pe_non (fun _ _ => .non) (fun s => by simp only [evX, fin]) rfl (fun _ => rfl) (fun s => by simp only [evX, fin])
    · cases h
  | .nul, X, sc, ex, C, h => by simp only [chk] at h; cases h
  | .tup es, X, sc, ex, C, h => by
    simp only [chk] at h
    split at h
    · exact sTup (sEs es X sc _ C h)
    · cases h
  | .lst es, X, sc, ex, C, h => by
    simp only [chk] at h
    split at h
    · exact sLst (sEs es X sc _ C h)
    · cases h
  | .shd es, X, sc, ex, C, h => by
    simp only [chk] at h
    split at h
    · exact sShd (sEs es X sc _ C h)
    · cases h
  | .bin o a b, X, sc, ex, C, h => by
    simp only [chk] at h
    split at h
    · obtain ⟨h1, h2⟩ := and2 h
      obtain ⟨h1, h3⟩ := and2 h1
      obtain rfl := of_decide_eq_true h1
      exact Snd.mk1 (sBin C (sX a X sc _ C h3).pe (sX b X sc _ C h2).pe) rfl (fun _ => rfl) (fun s => by simp only [evX, fin])
    · cases h
  | .neg a, X, sc, ex, C, h => by
    simp only [chk] at h
    split at h
    · exact sNeg (sX a X sc _ C h).pe
    · cases h
  | .cmp o a b, X, sc, ex, C, h => by
    simp only [chk] at h
    split at h
    · obtain ⟨h1, h4⟩ := and2 h
      obtain ⟨h1, h2⟩ := and2 h1
      obtain ⟨h1, h3⟩ := and2 h1
      obtain rfl := of_decide_eq_true h1
      exact sCmp C (sX a X sc _ C h3).pe (sX b X sc _ C h2).pe (by simpa using h4)
    · cases h
  | .chain o p a b c, X, sc, ex, C, h => by
    simp only [chk] at h
    split at h
    · obtain ⟨h1, h6⟩ := and2 h
      obtain ⟨h1, h5⟩ := and2 h1
      obtain ⟨h1, h4⟩ := and2 h1
      obtain ⟨h1, h3⟩ := and2 h1
      obtain ⟨h1, h2⟩ := and2 h1
      obtain rfl := of_decide_eq_true h1
      obtain rfl := of_decide_eq_true h2
      exact sChain C (sX a X sc _ C h3).pe (sX b X sc _ C h4).pe (sX c X sc _ C h5).pe (lastM (by simpa using h6))
    · cases h
  | .and_ a b, X, sc, ex, C, h => by
    simp only [chk] at h
    split at h
    · rename_i x y r p
      obtain ⟨h1, h2⟩ := and2 h
      refine sAnd (sX a X sc _ C h1) (fun e => ?_) (fun e => ?_)
      · subst e
        exact sX b X sc _ C h2
      · cases r with
        | nil => exact absurd rfl e
        | cons z w => exact sX b X sc _ C h2
    · cases h
  | .or_ a b, X, sc, ex, C, h => by
    simp only [chk] at h
    split at h
    · rename_i x y r p
      obtain ⟨h1, h2⟩ := and2 h
      refine sOr (sX a X sc _ C h1) (fun e => ?_) (fun e => ?_)
      · subst e
        exact sX b X sc _ C h2
      · cases r with
        | nil => exact absurd rfl e
        | cons z w => exact sX b X sc _ C h2
    · cases h
  | .not_ a, X, sc, ex, C, h => by
    simp only [chk] at h
    split at h
    · exact sNot (sX a X sc _ C h)
    · cases h
  | .ite c a b, X, sc, ex, C, h => by
    simp only [chk] at h
    split at h
    · obtain ⟨h1, h2⟩ := and2 h
      obtain ⟨h1, h3⟩ := and2 h1
      exact sIte (sX c X sc _ C h1) (sX a X sc _ C h3) (sX b X sc _ C h2)
    · cases h
  | .idx a b, X, sc, ex, C, h => by
    simp only [chk] at h
    split at h
    · obtain ⟨h1, h2⟩ := and2 h
      obtain ⟨h1, h3⟩ := and2 h1
      exact sIdx C (sX a X sc _ C h3).pe (sX b X sc _ C h2).pe (by simpa using h1)
    · cases h
  | .sl a lo hi, X, sc, ex, C, h => by
    simp only [chk] at h
    split at h
    · rename_i l hh _ _
      obtain ⟨h1, h2⟩ := and2 h
      obtain ⟨h1, h3⟩ := and2 h1
      refine sSl (sX a X sc _ C h1).pe (sPart ?_) (sPart ?_)
      · cases l with
        | none => exact h3
        | some l =>
          obtain ⟨h4, h5⟩ := and2 h3
          exact ⟨by simpa using h4, (sX lo X sc _ C h5).pe⟩
      · cases hh with
        | none => exact h2
        | some l =>
          obtain ⟨h4, h5⟩ := and2 h2
          exact ⟨by simpa using h4, (sX hi X sc _ C h5).pe⟩
    · cases h
  | .rev a, X, sc, ex, C, h => by
    simp only [chk] at h
    split at h
    · exact sRev (sX a X sc _ C h).pe
    · cases h
  | .bad, X, sc, ex, C, h => ⟨⟨fun pins s0 σ H Q I hh => by obtain ⟨F, G, θ, s, t, s', R, ev, k⟩ := hh; simp only [evX] at ev; cases ev⟩, ⟨fun pins s0 σ H Q I hh => by obtain ⟨F, G, θ, s, t, s', R, ev, k⟩ := hh; simp only [evX] at ev; cases ev⟩, fun _ => ⟨fun pins s0 σ H QT QF I hh => by obtain ⟨F, G, θ, s, t, s', R, ev, k⟩ := hh; simp only [evX] at ev; cases ev⟩⟩
  | .orV a b, X, sc, ex, C, h => by
    simp only [chk] at h
    split at h
    · rename_i x y r p
      obtain ⟨h1, h2⟩ := and2 h
      refine Snd.orV (sOrV (sX a X sc _ C h1) (fun e => ?_) (fun e => ?_)) (sX a X sc _ C h1) (fun e => ?_) (fun e => ?_)
      · subst e
        exact sX b X sc _ C h2
      · cases r with
        | nil => exact absurd rfl e
        | cons z w => exact sX b X sc _ C h2
      · subst e
        exact sX b X sc _ C h2
      · cases r with
        | nil => exact absurd rfl e
        | cons z w => exact sX b X sc _ C h2
    · cases h
  | .fld a f, X, sc, ex, C, h => by
    simp only [chk] at h
    split at h
    · obtain ⟨h1, h4⟩ := and2 h
      obtain ⟨h1, h3⟩ := and2 h1
      obtain ⟨h1, h2⟩ := and2 h1
      obtain rfl := of_decide_eq_true h1
      exact sFld C (of_decide_eq_true h2) (by simpa using h3) (sX a X sc _ C h4).pe
    · cases h
  | .isC c a, X, sc, ex, C, h => by
    simp only [chk] at h
    split at h
    · obtain ⟨h1, h7⟩ := and2 h
      obtain ⟨h1, h6⟩ := and2 h1
      obtain ⟨h1, h5⟩ := and2 h1
      obtain ⟨h1, h4⟩ := and2 h1
      obtain ⟨h1, h3⟩ := and2 h1
      obtain ⟨h1, h2⟩ := and2 h1
      obtain ⟨rfl, g1, m1⟩ := blB_ok C h1
      obtain rfl := of_decide_eq_true h4
      exact sIsC C (of_decide_eq_true h7) g1 m1 (C.glo _ h5) h6 (by simpa using h2) (sX a X sc _ C h3).pe
    · cases h
  | .make f es, X, sc, ex, C, h => by
    simp only [chk] at h
    split at h
    · obtain ⟨h1, h2⟩ := and2 h
      obtain ⟨h1, h3⟩ := and2 h1
      obtain ⟨h1, h4⟩ := and2 h1
      exact sMake C (of_decide_eq_true h1) (C.glo _ h4) h3 (sEs es X sc _ C h2) h2
    · cases h
  | .dsp es, X, sc, ex, C, h => by
    simp only [chk] at h
    split at h
    · obtain ⟨h1, h2⟩ := and2 h
      obtain ⟨trs, q1, q2⟩ := sPs es X sc _ _ C h1
      exact sDsp (q1 _) q2 h1 (of_decide_eq_true h2)
    · cases h
  | .meth m a es, X, sc, ex, C, h => by
    simp only [chk] at h
    split at h
    · obtain ⟨h1, h6⟩ := and2 h
      obtain ⟨h1, h5⟩ := and2 h1
      obtain ⟨h1, h4⟩ := and2 h1
      obtain ⟨h1, h3⟩ := and2 h1
      obtain ⟨h1, h2⟩ := and2 h1
      obtain rfl := of_decide_eq_true h1
      exact sMeth C (by simpa using h2) h3 (of_decide_eq_true h5) (sX a X sc _ C h4).pe (sEs es X sc _ C h6) h6
    · cases h
  | .popAt i e, X, sc, ex, C, h => by
    simp only [chk] at h
    split at h
    · obtain ⟨h1, h7⟩ := and2 h
      obtain ⟨h1, h6⟩ := and2 h1
      obtain ⟨h1, h5⟩ := and2 h1
      obtain ⟨h1, h4⟩ := and2 h1
      obtain ⟨h1, h3⟩ := and2 h1
      obtain ⟨h1, h2⟩ := and2 h1
      obtain rfl := of_decide_eq_true h1
      exact sPopAt C (of_decide_eq_true h2) (C.vis _ h3) h4 h5 (by simpa using h6) (sX e X sc _ C h7).pe
    · cases h
  | .disp k bs es, X, sc, ex, C, h => by
    simp only [chk] at h
    split at h
    · split at h
      · exact sDispT (sSts es bs X sc _ C h)
      · cases h
    · rename_i hk
      split at h
      · exact sDispL (fun z => hk z) (sSts es bs X sc _ C h)
      · cases h
  | .callK f es ks, X, sc, ex, C, h => by
    simp only [chk] at h
    split at h
    · obtain ⟨h1, h5⟩ := and2 h
      obtain ⟨h1, h2⟩ := and2 h1
      obtain ⟨h1, h3⟩ := and2 h1
      obtain ⟨h1, h4⟩ := and2 h1
      split at h5
      · rename_i ps hp
        exact sCallK C (of_decide_eq_true h1) (C.glo _ h4) h3 (sEs es X sc _ C h2) h2 hp (sKs ks X sc _ _ C h5) h5
      · cases h5
    · cases h
  | .callP f es ks ps, X, sc, ex, C, h => by
    simp only [chk] at h
    split at h
    · obtain ⟨h1, h5⟩ := and2 h
      obtain ⟨h1, h2⟩ := and2 h1
      obtain ⟨h1, h3⟩ := and2 h1
      obtain ⟨h1, h4⟩ := and2 h1
      split at h5
      · rename_i n qs ns hp
        obtain ⟨h5, h6⟩ := and2 h5
        obtain ⟨h5, h7⟩ := and2 h5
        obtain rfl := of_decide_eq_true h5
        obtain rfl := of_decide_eq_true h7
        exact sCallP C (of_decide_eq_true h1) (C.glo _ h4) h3 (sEs es X sc _ C h2) h2 hp (sKs ks X sc _ _ C h6) h6
      · cases h5
    · cases h
  | .call f es, X, sc, ex, C, h => by
    simp only [chk] at h
    split at h
    · obtain ⟨h1, h2⟩ := and2 h
      obtain ⟨h1, h3⟩ := and2 h1
      obtain ⟨h1, h4⟩ := and2 h1
      exact sCall C (of_decide_eq_true h1) (C.glo _ h4) h3 (sEs es X sc _ C h2) h2
    · cases h
  | .bi b es, X, sc, ex, C, h => by
    simp only [chk] at h
    split at h
    · rename_i x p1 xs p2
      obtain ⟨h1, h2⟩ := and2 h
      obtain ⟨e1, g1, m1⟩ := blB_ok C h1
      subst e1
      have isI : ∀ (id : String) (nm : Str), b.isTy = some id → bootBuiltins nm = some (.type id) → nm ≠ "__name__" → (nm == ("__debug__" : Str)) = false →
          (∃ z y pq, xs = [z, .Name y pq] ∧ chks D X.N sc es [z] = true ∧ blB D sc y nm = true) → Snd D gc cf X (.bi b es) (.Call (.Name b.nm p1) xs [] p2) := by
        intro id nm hid hb hn1 hn2 ⟨z, y, pq, hx, h3, h4⟩
        subst hx
        obtain ⟨rfl, g2, m2⟩ := blB_ok C h4
        refine sBiI C hid g1 m1 g2 m2 hb hn1 hn2 (sEs es X sc _ C h3) (fun e he => ?_) h3
        subst he
        simp only [chks] at h3
        exact (sX e X sc _ C (and2 (and2 h3).1).2).pe
      cases b with
      | len => exact sBiF C rfl g1 m1 (sEs es X sc _ C h2) h2
      | abs => exact sBiF C rfl g1 m1 (sEs es X sc _ C h2) h2
      | sum => exact sBiF C rfl g1 m1 (sEs es X sc _ C h2) h2
      | max2 => exact sBiF C rfl g1 m1 (sEs es X sc _ C h2) h2
      | min2 => exact sBiF C rfl g1 m1 (sEs es X sc _ C h2) h2
      | all => exact sBiF C rfl g1 m1 (sEs es X sc _ C h2) h2
      | any => exact sBiF C rfl g1 m1 (sEs es X sc _ C h2) h2
      | repr => exact sBiF C rfl g1 m1 (sEs es X sc _ C h2) h2
      | minOf => exact sBiF C rfl g1 m1 (sEs es X sc _ C h2) h2
      | maxOf => exact sBiF C rfl g1 m1 (sEs es X sc _ C h2) h2
      | sorted => exact sBiF C rfl g1 m1 (sEs es X sc _ C h2) h2
      | strOf => exact sBiT rfl g1 m1 (sEs es X sc _ C h2) h2
      | int => exact sBiT rfl g1 m1 (sEs es X sc _ C h2) h2
      | listOf => exact sBiT rfl g1 m1 (sEs es X sc _ C h2) h2
      | tupOf => exact sBiT rfl g1 m1 (sEs es X sc _ C h2) h2
      | isInt =>
        simp only at h2
        split at h2
        · rename_i z y pq
          exact isI "int" "int" rfl boot_tys.1 (by decide +kernel) (by decide +kernel) ⟨z, y, pq, rfl, and2 h2⟩
        · cases h2
      | isBool =>
        simp only at h2
        split at h2
        · rename_i z y pq
          exact isI "bool" "bool" rfl boot_tys.2.1 (by decide +kernel) (by decide +kernel) ⟨z, y, pq, rfl, and2 h2⟩
        · cases h2
      | isStr =>
        simp only at h2
        split at h2
        · rename_i z y pq
          exact isI "str" "str" rfl boot_tys.2.2.1 (by decide +kernel) (by decide +kernel) ⟨z, y, pq, rfl, and2 h2⟩
        · cases h2
      | isTup =>
        simp only at h2
        split at h2
        · rename_i z y pq
          exact isI "tuple" "tuple" rfl boot_tys.2.2.2 (by decide +kernel) (by decide +kernel) ⟨z, y, pq, rfl, and2 h2⟩
        · cases h2
      | listRg =>
        simp only at h2
        split at h2
        · rename_i y q ys q2
          obtain ⟨h3, h4⟩ := and2 h2
          obtain ⟨h3, h5⟩ := and2 h3
          obtain ⟨rfl, g2, m2⟩ := blB_ok C h3
          obtain ⟨y0, rfl⟩ := List.length_eq_one_iff.mp (of_decide_eq_true h4)
          refine sListRg C g1 m1 g2 m2 (fun e he => ?_) h5
          subst he
          simp only [chks] at h5
          exact (sX e X sc _ C (and2 (and2 h5).1).2).pe
        · cases h2
    · cases h
  | .pop i, X, sc, ex, C, h => by
    simp only [chk] at h
    split at h
    · obtain ⟨h1, h5⟩ := and2 h
      obtain ⟨h1, h4⟩ := and2 h1
      obtain ⟨h1, h3⟩ := and2 h1
      obtain ⟨h1, h2⟩ := and2 h1
      obtain rfl := of_decide_eq_true h1
      exact sPop (of_decide_eq_true h2) (C.vis _ h3) h4 h5
    · cases h
  | .comp k elt tg its cond own, X, sc, ex, C, h => by
    simp only [chk] at h
    split at h
    · rename_i e' tg' iter ifs scope pos
      obtain ⟨h1, hit⟩ := and2 h
      obtain ⟨h1, hcond⟩ := and2 h1
      obtain ⟨h1, htg⟩ := and2 h1
      obtain ⟨h1, helt⟩ := and2 h1
      obtain ⟨h1, hblk⟩ := and2 h1
      obtain ⟨hset, hin⟩ := and2 h1
      have hI : PI X tg' iter (RI gc cf (MX D.cl X) k its) := sI C (fun e x he hx => by subst he; exact (sX e X sc x C hx).pe) (fun xs hxs => sEs its X sc xs C hxs) (.inr ⟨_, _, htg⟩) hit
      have hE : ∀ X' : Cx, Cxt D gc cf X' scope → X'.N = X.N → MX D.cl X' = MX D.cl X → Snd D gc cf X' elt e' := fun X' C' hN _ => sX elt X' scope e' C' (by rw [hN]; exact helt)
      cases ifs with
      | nil =>
        refine sComp (tt := tYes) C hI hblk (by simpa using hset) hin hE htg (fun _ _ _ _ => pts_nil) (fun {σ H Q F G θ s b s'} R e k => ?_)
        rw [if_pos hcond] at e
        cases e
        exact k H F θ R (FLe.refl F) (List.prefix_refl _)
      | cons c r =>
        cases r with
        | cons _ _ => cases hcond
        | nil =>
          obtain ⟨h2, h3⟩ := and2 hcond
          refine sComp (tt := RT gc cf (MX D.cl X) cond) C hI hblk (by simpa using hset) hin hE htg (fun X' C' hN hK => ?_) (fun {σ H Q F G θ s b s'} R e k => ?_)
          · have z := pts_one (sX cond X' scope c C' (by rw [hN]; exact h3)).pt
            rw [hK] at z
            exact z
          · rw [if_neg (by simpa using h2)] at e
            exact ⟨F, G, θ, s, b, s', R, e, k⟩
    · cases h
theorem sPs : ∀ (es : List Ex) (X : Cx) (sc : Scope) (ks : List (Option Expr)) (vs : List Expr), Cxt D gc cf X sc → chkPs D X.N sc es ks vs = true → ∃ trs, (∀ pos, PPs X pos ks vs trs) ∧ PsRead gc cf (MX D.cl X) es trs
  | [], X, sc, ks, vs, C, h => by
    simp only [chkPs] at h
    split at h
    · refine ⟨[], fun _ => pps_nil, fun σ H Q F G θ s ts s' R e k => ?_⟩
      simp only [evEs] at e
      cases e
      exact k [] H F θ R (FLe.refl F) (List.prefix_refl _) .nil
    · cases h
  | [_], X, sc, ks, vs, C, h => by simp only [chkPs] at h; cases h
  | a :: b :: es, X, sc, ks, vs, C, h => by
    simp only [chkPs] at h
    split at h
    · rename_i kx ks' vx vs'
      obtain ⟨h1, h2⟩ := and2 h
      obtain ⟨h1, h3⟩ := and2 h1
      have pa := (sX a X sc kx C h1).pe
      have pb := (sX b X sc vx C h3).pe
      obtain ⟨trs, q1, q2⟩ := sPs es X sc ks' vs' C h2
      refine ⟨(RE gc cf (MX D.cl X) a, RE gc cf (MX D.cl X) b) :: trs, fun pos => pps_cons pa pb (q1 pos), fun σ H Q F G θ s ts s' R e k => ?_⟩
      simp only [evEs] at e
      obtain ⟨t1, s1, e1, e⟩ := Rs.bind_eq e
      obtain ⟨ts1, s2, e2, e⟩ := Rs.bind_eq e
      cases e
      obtain ⟨t2, s3, e3, e2⟩ := Rs.bind_eq e2
      obtain ⟨ts2, s4, e4, e2⟩ := Rs.bind_eq e2
      cases e2
      refine ⟨F, G, θ, s, t1, s1, R, e1, fun v H1 F1 θ1 R1 l1 p1 r1 => ⟨F1, G, θ1, s1, t2, s3, R1, e3, fun w H2 F2 θ2 R2 l2 p2 r2 => ?_⟩⟩
      refine q2 σ H2 _ F2 G θ2 s3 ts2 _ R2 e4 fun ps H3 F3 θ3 R3 l3 p3 r3 => ?_
      exact k ((v, w) :: ps) H3 F3 θ3 R3 (l1.trans (l2.trans l3)) (p1.trans (p2.trans p3)) (.cons (r1.mono (l2.trans l3) (p2.trans p3)) (.cons (r2.mono l3 p3) r3))
    · cases h
theorem sSts : ∀ (es : List Ex) (bs : List Bool) (X : Cx) (sc : Scope) (xs : List Expr), Cxt D gc cf X sc → chkSt D X.N sc es bs xs = true → PA X xs (RAS gc cf (MX D.cl X) es bs)
  | [], bs, X, sc, xs, C, h => by
    cases xs with
    | cons _ _ => exact nomatch h
    | nil =>
      refine ⟨fun p pins s0 σ H Q I hh => ?_⟩
      obtain ⟨F, G, θ, s, ts, s', R, ev, k⟩ := hh
      simp only [evSt] at ev
      cases ev
      exact pa_nil.run p pins s0 σ H Q I (k [] H F θ R (FLe.refl F) (List.prefix_refl _) .nil)
  | e :: es, bs, X, sc, xs, C, h => by
    cases xs with
    | nil => exact nomatch h
    | cons x xs =>
      simp only [chkSt] at h
      obtain ⟨h1, h2⟩ := and2 h
      have p2 := sSts es bs.tail X sc xs C h2
      split at h1
      · rename_i hb
        split at h1
        · rename_i y py
          have p1 := (sX e X sc y C h1).pe
          refine ⟨fun p pins s0 σ H Q I hh => ?_⟩
          obtain ⟨F, G, θ, s, ts, s', R, ev, k⟩ := hh
          simp only [evSt] at ev
          obtain ⟨t, s1, e1, ev⟩ := Rs.bind_eq ev
          rw [if_pos hb] at ev
          split at ev
          · rename_i l hl
            obtain ⟨ts', s2, e2, ev⟩ := Rs.bind_eq ev
            cases ev
            refine (StX.pa_star p1 p2 rfl).run p pins s0 σ H Q I ⟨F, G, θ, s, t, s1, R, e1, fun v H1 F1 θ1 R1 l1 p1' r1 => ?_⟩
            obtain ⟨a, zs, rfl, rr, st⟩ := R1.stable r1 hl
            have st1 := st H1 R1.m.fle (.inr R1.out.gle)
            refine ⟨a, zs, rfl, ?_, F1, G, θ1, s1, ts', _, R1, e2, fun vs H2 F2 θ2 R2 l2 p2' r2 => ?_⟩
            · by_cases hT : isTupT (s1.deref t) = true
              · rw [if_pos hT] at st1; exact .inl st1
              · rw [if_neg hT] at st1; exact .inr st1
            · exact k (zs ++ vs) H2 F2 θ2 R2 (l1.trans l2) (p1'.trans p2') ((RpVs.ofs (rr.mono l2 p2')).append r2)
          · cases ev
        · cases h1
      · rename_i hb
        obtain ⟨h1, h3⟩ := and2 h1
        have p1 := (sX e X sc x C h3).pe
        refine ⟨fun p pins s0 σ H Q I hh => ?_⟩
        obtain ⟨F, G, θ, s, ts, s', R, ev, k⟩ := hh
        simp only [evSt] at ev
        obtain ⟨t, s1, e1, ev⟩ := Rs.bind_eq ev
        rw [if_neg hb] at ev
        obtain ⟨ts', s2, e2, ev⟩ := Rs.bind_eq ev
        cases ev
        exact (pa_cons p1 p2 (star_cons (by simpa using h1))).run p pins s0 σ H Q I ⟨F, G, θ, s, t, s1, R, e1, fun v H1 F1 θ1 R1 l1 p1' r1 => ⟨F1, G, θ1, s1, ts', _, R1, e2, fun vs H2 F2 θ2 R2 l2 p2' r2 => k (v :: vs) H2 F2 θ2 R2 (l1.trans l2) (p1'.trans p2') (.cons (r1.mono l2 p2') r2)⟩⟩
theorem sKs : ∀ (es : List Ex) (X : Cx) (sc : Scope) (ps : List Str) (kws : List Keyword), Cxt D gc cf X sc → chkK D X.N sc es ps kws = true → PK X kws (RA gc cf (MX D.cl X) es)
  | [], X, sc, ps, kws, C, h => by
    cases kws with
    | cons _ _ =>
      simp only [chkK] at h
      split at h
      · cases h
      · cases h
    | nil =>
      refine ⟨fun p pins s0 σ H Q I hh => ?_⟩
      obtain ⟨F, G, θ, s, ts, s', R, ev, k⟩ := hh
      simp only [evEs] at ev
      cases ev
      exact pk_nil.run p pins s0 σ H Q I (k [] H F θ R (FLe.refl F) (List.prefix_refl _) .nil)
  | e :: es, X, sc, ps, kws, C, h => by
    cases ps with
    | nil => simp only [chkK] at h; cases h
    | cons p0 ps => cases kws with
      | nil => simp only [chkK] at h; cases h
      | cons kw kws =>
        obtain ⟨nm, x, kp⟩ := kw
        cases nm with
        | none => simp only [chkK] at h; cases h
        | some nm =>
        simp only [chkK] at h
        obtain ⟨h1, h2⟩ := and2 h
        obtain ⟨h1, h3⟩ := and2 h1
        have p1 := (sX e X sc x C h3).pe
        have p2 := sKs es X sc ps kws C h2
        refine ⟨fun p pins s0 σ H Q I hh => ?_⟩
        obtain ⟨F, G, θ, s, ts, s', R, ev, k⟩ := hh
        simp only [evEs] at ev
        obtain ⟨t, s1, e1, ev⟩ := Rs.bind_eq ev
        obtain ⟨ts', s2, e2, ev⟩ := Rs.bind_eq ev
        cases ev
        exact (pk_cons p1 p2).run p pins s0 σ H Q I ⟨F, G, θ, s, t, s1, R, e1, fun v H1 F1 θ1 R1 l1 p1' r1 => ⟨F1, G, θ1, s1, ts', _, R1, e2, fun vs H2 F2 θ2 R2 l2 p2' r2 => k (v :: vs) H2 F2 θ2 R2 (l1.trans l2) (p1'.trans p2') (.cons (r1.mono l2 p2') r2)⟩⟩
theorem sEs : ∀ (es : List Ex) (X : Cx) (sc : Scope) (xs : List Expr), Cxt D gc cf X sc → chks D X.N sc es xs = true → PA X xs (RA gc cf (MX D.cl X) es)
  | [], X, sc, xs, C, h => by
    cases xs with
    | cons _ _ => exact nomatch h
    | nil =>
      refine ⟨fun p pins s0 σ H Q I hh => ?_⟩
      obtain ⟨F, G, θ, s, ts, s', R, ev, k⟩ := hh
      simp only [evEs] at ev
      cases ev
      exact pa_nil.run p pins s0 σ H Q I (k [] H F θ R (FLe.refl F) (List.prefix_refl _) .nil)
  | e :: es, X, sc, xs, C, h => by
    cases xs with
    | nil => exact nomatch h
    | cons x xs =>
      simp only [chks] at h
      obtain ⟨h1, h2⟩ := and2 h
      obtain ⟨h1, h3⟩ := and2 h1
      have p1 := (sX e X sc x C h3).pe
      have p2 := sEs es X sc xs C h2
      refine ⟨fun p pins s0 σ H Q I hh => ?_⟩
      obtain ⟨F, G, θ, s, ts, s', R, ev, k⟩ := hh
      simp only [evEs] at ev
      obtain ⟨t, s1, e1, ev⟩ := Rs.bind_eq ev
      obtain ⟨ts', s2, e2, ev⟩ := Rs.bind_eq ev
      cases ev
      exact (pa_cons p1 p2 (star_cons (by simpa using h1))).run p pins s0 σ H Q I ⟨F, G, θ, s, t, s1, R, e1, fun v H1 F1 θ1 R1 l1 p1' r1 => ⟨F1, G, θ1, s1, ts', _, R1, e2, fun vs H2 F2 θ2 R2 l2 p2' r2 => k (v :: vs) H2 F2 θ2 R2 (l1.trans l2) (p1'.trans p2') (.cons (r1.mono l2 p2') r2)⟩⟩
end
end
end Ev
/-! Soundness of statements: the parts. -/
namespace Ev
open PySem PySem.Spec L2
open PyProof.Rows hiding St
section
variable {D : Ds} {gc : Nat → Option Tr} {cf : CF} {wf : Nat} {X : Cx} {sc : Scope} {K : Mx} {F F' G H : Hp} {θ θ' : List Addr} {s : Sta} {σ : St}
/-- less is guarded -/
theorem Rel.weakG {G' : Hp} (R : Rel K F G' θ s σ H) (h : FLe G G') : Rel K F G θ s σ H := by
  refine ⟨⟨R.m.fle, h.trans R.m.gle, fun a o e => R.m.fg a o (h a o e), R.m.len, R.m.nd, fun a o e => R.m.gt a o (h a o e), R.m.al, fun n o e hg => ?_⟩, R.len, fun i x e => ?_, R.dis⟩
  · obtain ⟨a, h1, h2, h3, h4⟩ := R.m.ob n o e hg
    exact ⟨a, h1, h2, h.none h3, h4⟩
  · have r := R.slot i x e
    cases x with
    | none => exact r
    | val t => exact r
    | own l => obtain ⟨a, xs, e1, h1, f, g, t, q⟩ := r; exact ⟨a, xs, e1, h1, f, h.none g, t, q⟩
/-- what is wanted behind a statement -/
def Aft (K : Mx) (F G : Hp) (θ : List Addr) (s' : Sta) (D' : Ends) : Fl → Prop
  | .next => ∀ σ' H' F' θ', Rel K F' G θ' s' σ' H' → FLe F F' → θ <+: θ' → D'.nx σ' H'
  | .brk => ∀ σ' H' F' θ', Rel K F' G θ' s' σ' H' → FLe F F' → θ <+: θ' → D'.bk σ' H'
  | .cont => ∀ σ' H' F' θ', Rel K F' G θ' s' σ' H' → FLe F F' → θ <+: θ' → D'.ct σ' H'
  | .ret t => ∀ v σ' H' F' θ', Rel K F' G θ' s' σ' H' → FLe F F' → θ <+: θ' → Rp K F' θ' t v → D'.rt v H'
theorem Aft.mono {G : Hp} {s' : Sta} {D' : Ends} {fl : Fl} (h : Aft K F G θ s' D' fl) (l : FLe F F') (p : θ <+: θ') : Aft K F' G θ' s' D' fl := by
  cases fl with
  | next => exact fun σ' H' F2 θ2 R l' p' => h σ' H' F2 θ2 R (l.trans l') (p.trans p')
  | brk => exact fun σ' H' F2 θ2 R l' p' => h σ' H' F2 θ2 R (l.trans l') (p.trans p')
  | cont => exact fun σ' H' F2 θ2 R l' p' => h σ' H' F2 θ2 R (l.trans l') (p.trans p')
  | ret t => exact fun v σ' H' F2 θ2 R l' p' r => h v σ' H' F2 θ2 R (l.trans l') (p.trans p') r
section
variable (gc : Nat → Option Tr) (cf : CF) (wf : Nat)
def RS (K : Mx) (st : Sm) : TS := fun D' σ H => ∃ F G θ s fl s', Rel K F G θ s σ H ∧ exS gc cf wf st s = .ok fl s' ∧ Aft K F G θ s' D' fl
def RSs (K : Mx) (st : List Sm) : TS := fun D' σ H => ∃ F G θ s fl s', Rel K F G θ s σ H ∧ exSs gc cf wf st s = .ok fl s' ∧ Aft K F G θ s' D' fl
end
/-! ### the swapped stores, for a def's names -/
def noStar (vs : List Expr) : Bool := !(vs.any isStar)
def namesOf (sc : Scope) (line : Nat) (ts : List Expr) : List Str := ts.filterMap fun
  | .Name id pos => if sc.names.lookup id == some .local && pos.line == line then some id else none
  | _ => none
def swQ (sc : Scope) (ts vs : List Expr) : Option (Option (List Str)) :=
  if !(ts.length == 2 || ts.length == 3) || vs.length != ts.length then some none
  else if vs.any isStar then some none
  else if (namesOf sc ((ts.head?.map (·.pos.line)).getD 0) ts).length != ts.length || (namesOf sc ((ts.head?.map (·.pos.line)).getD 0) ts).eraseDups.length != (namesOf sc ((ts.head?.map (·.pos.line)).getD 0) ts).length then some none
  else if vs.all (foldedForSure 8) then some none
  else if vs.all (constantsAlone 8) then none
  else some (some (namesOf sc ((ts.head?.map (·.pos.line)).getD 0) ts))
theorem starFun : (fun (e : Expr) => match e with | .Starred .. => true | _ => false) = isStar := by
  funext e
  cases e <;> rfl
theorem swQ_ok {env : Env} {ts vs : List Expr} {k k2 : Nat} {p p2 : Pos} {r : Option (List Str)} (hk : env.scope.kind = .function) (h : swQ env.scope ts vs = some r) : swappedStores [.Tuple ts k p] (.Tuple vs k2 p2) env = pure r := by
  have hb : (env.blockKind != .function) = false := by unfold Env.blockKind; rw [hk]; rfl
  have en : (ts.filterMap fun
    | .Name id pos => if env.kindOf id == some .local && pos.line == (ts.head?.map (·.pos.line)).getD 0 then some id else none
    | _ => none) = namesOf env.scope ((ts.head?.map (·.pos.line)).getD 0) ts := rfl
  unfold swappedStores
  simp only [hb, Bool.or_false]
  have key : ∀ f : Expr → Bool, (∀ e, f e = isStar e) → vs.any f = vs.any isStar := fun f hf => by
    have : f = isStar := funext hf
    rw [this]
  rw [key _ (by intro e; cases e <;> rfl)]
  unfold swQ at h
  split at h
  · rename_i c1
    cases h
    exact if_pos c1
  · rename_i c1
    refine (if_neg c1).trans ?_
    split at h
    · rename_i c2
      cases h
      exact if_pos c2
    · rename_i c2
      refine (if_neg c2).trans ?_
      split at h
      · rename_i c3
        cases h
        exact if_pos c3
      · rename_i c3
        refine (if_neg c3).trans ?_
        split at h
        · rename_i c4
          cases h
          exact if_pos c4
        · rename_i c4
          refine (if_neg c4).trans ?_
          split at h
          · cases h
          · rename_i c5
            cases h
            exact if_neg c5
end
end Ev
/-! Soundness of statements: each kind. -/
namespace Ev
open PySem PySem.Spec L2
open PyProof.Rows hiding St
section
variable {D : Ds} {gc : Nat → Option Tr} {cf : CF} {wf : Nat} {X : Cx} {sc : Scope} {K : Mx} {F F' G H : Hp} {θ θ' : List Addr} {s : Sta} {σ : St}
def isCompE : Expr → Bool
  | .ListComp .. => true
  | .SetComp .. => true
  | .DictComp .. => true
  | _ => false
theorem swaps_no {v : Expr} {t : Option Expr} {l : Nat} {env : Env} (h : isCompE v = false) : swapsWith v t l env = pure false := by
  cases v <;> first | rfl | (exact nomatch h)
theorem Rel.p0 (θ : List Addr) : θ <+: θ := List.prefix_refl θ
theorem sSet (C : Cxt D gc cf X sc) {i : Nat} {e : Ex} {x : Str} {px pos : Pos} {v : Expr} (hN : X.N[i]? = some x) (hl : locB sc x = true) (he : PE X v (RE gc cf (MX D.cl X) e)) (hv : isCompE v = false) : PS X (.Assign [.Name x px] v pos) (RS gc cf wf (MX D.cl X) (.set i e)) := by
  obtain ⟨h1, h2⟩ := C.loc x hl
  refine ⟨fun pins s0 σ H D' I hh => ?_⟩
  obtain ⟨F, G, θ, s, fl, s', R, ev, k⟩ := hh
  simp only [exS] at ev
  obtain ⟨t, s1, e1, ev⟩ := Rs.bind_eq ev
  split at ev
  · rename_i hc
    obtain ⟨h3, h4⟩ := and2 hc
    cases ev
    exact (ps_set C.nd hN h1 he (swaps_no hv) h2).run pins s0 σ H D' I ⟨F, G, θ, s, t, s1, R, e1, fun v H1 F1 θ1 R1 l1 p1 r1 => k _ H1 F1 θ1 (R1.store (r1.rp h3) (of_decide_eq_true h4)) l1 p1⟩
  · cases ev
theorem sSetC (C : Cxt D gc cf X sc) {i : Nat} {e : Ex} {st : Stmt} {t : TE} (hp : PS X st (tAsg t (gName i))) (hr : ∀ {σ : St} {H : Hp} {Q : VK}, RE gc cf (MX D.cl X) e σ H Q → t σ H Q) : PS X st (RS gc cf wf (MX D.cl X) (.set i e)) := by
  refine ⟨fun pins s0 σ H D' I hh => ?_⟩
  obtain ⟨F, G, θ, s, fl, s', R, ev, k⟩ := hh
  simp only [exS] at ev
  obtain ⟨t, s1, e1, ev⟩ := Rs.bind_eq ev
  split at ev
  · rename_i hc
    obtain ⟨h3, h4⟩ := and2 hc
    cases ev
    exact hp.run pins s0 σ H D' I (hr ⟨F, G, θ, s, t, s1, R, e1, fun v H1 F1 θ1 R1 l1 p1 r1 => k _ H1 F1 θ1 (R1.store (r1.rp h3) (of_decide_eq_true h4)) l1 p1⟩)
  · cases ev
/-- a fresh list at p becomes the own list of slot i -/
theorem Rel.ownNew {i : Nat} {l : Ob} {xs : HO} {p : Addr} (R : Rel K F G θ s σ H) (n : H p = none) (r : RpB K F θ p l xs) (hi : i < s.env.length) : Rel K F G θ ⟨s.env.set i (.own l), s.mem⟩ (σ.set i (some (.ref p))) (upd H p xs) := by
  refine (R.junk (o := xs) n).storeOwn r upd_same (R.m.fle.none n) (R.m.gle.none n) (R.m.noTh n) (fun j l' _ e z => ?_) hi
  obtain ⟨zs, q, _⟩ := R.ownAt e z
  rw [n] at q
  cases q
theorem sOwn (C : Cxt D gc cf X sc) {i : Nat} {es : List Ex} {x : Str} {px p2 pos : Pos} {xs : List Expr} (hN : X.N[i]? = some x) (hl : locB sc x = true) (he : PA X xs (RA gc cf (MX D.cl X) es)) : PS X (.Assign [.Name x px] (.List xs p2) pos) (RS gc cf wf (MX D.cl X) (.own i es)) := by
  obtain ⟨h1, h2⟩ := C.loc x hl
  refine ⟨fun pins s0 σ H D' I hh => ?_⟩
  obtain ⟨F, G, θ, s, fl, s', R, ev, k⟩ := hh
  simp only [exS] at ev
  obtain ⟨ts, s1, e1, ev⟩ := Rs.bind_eq ev
  split at ev
  · rename_i hc
    obtain ⟨h3, h4⟩ := and2 hc
    obtain ⟨h5, h6⟩ := and2 h3
    cases ev
    refine (ps_set C.nd hN h1 (pe_lst he) rfl h2).run pins s0 σ H D' I ⟨F, G, θ, s, ts, s1, R, e1, fun vs H1 F1 θ1 R1 l1 p1 r1 => ?_⟩
    have r := r1.rps h5
    exact ⟨by rw [r.length]; exact of_decide_eq_true h6, fun p np => k _ _ F1 θ1 (R1.ownNew (l := .lst ts) np ⟨_, rfl, r⟩ (of_decide_eq_true h4)) l1 p1⟩
  · cases ev
theorem sOwnOf (C : Cxt D gc cf X sc) {i : Nat} {e : Ex} {x : Str} {px p2 p3 pos : Pos} {z : Expr} (hN : X.N[i]? = some x) (hl : locB sc x = true) (hg : Gl X "list") (hm : X.mg "list" = none) (he : PE X z (RE gc cf (MX D.cl X) e)) (hst : isStar z = false) : PS X (.Assign [.Name x px] (.Call (.Name "list" p2) [z] [] p3) pos) (RS gc cf wf (MX D.cl X) (.ownOf i e)) := by
  obtain ⟨h1, h2⟩ := C.loc x hl
  refine ⟨fun pins s0 σ H D' I hh => ?_⟩
  obtain ⟨F, G, θ, s, fl, s', R, ev, k⟩ := hh
  simp only [exS] at ev
  obtain ⟨t, s1, e1, ev⟩ := Rs.bind_eq ev
  split at ev
  · rename_i l e2
    split at ev
    · rename_i hi
      cases ev
      refine (ps_set C.nd hN h1 (pe_callTy (T := "list") call_list_of hg hm (by decide +kernel) (pa_cons he pa_nil (star_cons hst)) (by decide) (by decide) (star_cons hst) (by rfl)) rfl h2).run pins s0 σ H D' I ⟨F, G, θ, s, t, s1, R, e1, fun v H1 F1 θ1 R1 l1 p1 r1 => ?_⟩
      have hp : (s1.deref t).pure = true := by
        cases e3 : s1.deref t <;> first | rfl | (rw [e3] at e2; exact nomatch e2)
      obtain ⟨a, xs, rfl, q, r⟩ := seqH R1.m.fle e2 (R1.read r1 hp)
      exact ⟨a, xs, rfl, q, fun p np => k _ _ F1 θ1 (R1.ownNew (l := .lst l) np ⟨_, rfl, r⟩ hi) l1 p1⟩
    · cases ev
  · cases ev
def isTupE : Expr → Bool
  | .Tuple .. => true
  | _ => false
theorem sTgt (C : Cxt D gc cf X sc) {tg : Tg} {e : Ex} {t v : Expr} {pos : Pos} (ht : chkT X.N sc tg t = true) (htp : isTp tg = true) (he : PE X v (RE gc cf (MX D.cl X) e)) (hv : ∀ es kk p, t = .Tuple es kk p → swappedStores [.Tuple es kk p] v X.env = pure none) : PS X (.Assign [t] v pos) (RS gc cf wf (MX D.cl X) (.tgt tg e)) := by
  obtain ⟨es, kk, p, rfl⟩ : ∃ es kk p, t = .Tuple es kk p := by
    cases tg with
    | nm i => cases htp
    | tp gs =>
      simp only [chkT] at ht
      split at ht
      · exact ⟨_, _, _, rfl⟩
      · cases ht
  have h1 : swapsWithSole [.Tuple es kk p] v pos.line X.env = pure false := by cases v <;> rfl
  have h2 := hv es kk p rfl
  refine ⟨fun pins s0 σ H D' I hh => ?_⟩
  obtain ⟨F, G, θ, s, fl, s', R, ev, k⟩ := hh
  simp only [exS] at ev
  obtain ⟨t, s1, e1, ev⟩ := Rs.bind_eq ev
  split at ev
  · rename_i env e2
    cases ev
    have tp : t.pure = true := by
      cases tg with
      | nm i => cases htp
      | tp gs => cases t <;> first | rfl | (simp only [asg] at e2; cases e2)
    exact (ps_asg he (sT (cl := D.cl) C.nd C.calm C.loc tg _ ht) h1 h2 (by rfl)).run pins s0 σ H D' I ⟨F, G, θ, s, t, s1, R, e1, fun v H1 F1 θ1 R1 l1 p1 r1 => ⟨F1, G, θ1, s1.env, s1.mem, t, env, R1, r1.rp tp, e2, fun σ' R' _ => k σ' H1 F1 θ1 R' l1 p1⟩⟩
  · cases ev
theorem sAug (C : Cxt D gc cf X sc) {i : Nat} {o : Op} {e : Ex} {x : Str} {px pos : Pos} {v : Expr} (hN : X.N[i]? = some x) (hl : locB sc x = true) (ho : o = .add ∨ o = .sub) (he : PE X v (RE gc cf (MX D.cl X) e)) : PS X (.AugAssign (.Name x px) o.py v pos) (RS gc cf wf (MX D.cl X) (.aug i o e)) := by
  obtain ⟨h1, h2⟩ := C.loc x hl
  refine ⟨fun pins s0 σ H D' I hh => ?_⟩
  obtain ⟨F, G, θ, s, fl, s', R, ev, k⟩ := hh
  simp only [exS] at ev
  split at ev
  · rename_i n en
    obtain ⟨t, s1, e1, ev⟩ := Rs.bind_eq ev
    obtain ⟨w, ew, rw'⟩ := R.slot i _ en
    cases rw'
    have hi : i < s.env.length := (List.getElem?_eq_some_iff.mp en).1
    split at ev
    · rename_i m hh9
      cases ev
      refine (ps_aug C.nd hN h1 he (fun pins s σ H x y v u Q I rx ry h => iop_add pins s σ H x y v u Q I rx ry h) h2).run pins s0 σ H D' I ⟨_, ew, F, G, θ, s, _, s1, R, e1, fun v H1 F1 θ1 R1 l1 p1 r1 => ?_⟩
      cases (show Rp _ _ _ _ _ from r1)
      exact ⟨n, m, rfl, rfl, k _ H1 F1 θ1 (R1.store (.int _) (by rw [R1.len, ← R.len]; exact hi)) l1 p1⟩
    · rename_i m hh9
      cases ev
      refine (ps_aug C.nd hN h1 he (fun pins s σ H x y v u Q I rx ry h => iop_sub pins s σ H x y v u Q I rx ry h) h2).run pins s0 σ H D' I ⟨_, ew, F, G, θ, s, _, s1, R, e1, fun v H1 F1 θ1 R1 l1 p1 r1 => ?_⟩
      cases (show Rp _ _ _ _ _ from r1)
      exact ⟨n, m, rfl, rfl, k _ H1 F1 θ1 (R1.store (.int _) (by rw [R1.len, ← R.len]; exact hi)) l1 p1⟩
    · cases ev
  · cases ev
theorem sPut (C : Cxt D gc cf X sc) {o kk v : Ex} {a b w : Expr} {p pos : Pos} (hb : isSlice b = false) (ho : PE X a (RE gc cf (MX D.cl X) o)) (hk : PE X b (RE gc cf (MX D.cl X) kk)) (hv : PE X w (RE gc cf (MX D.cl X) v)) : PS X (.Assign [.Subscript a b p] w pos) (RS gc cf wf (MX D.cl X) (.put o kk v)) := by
  have h1 : swapsWithSole [.Subscript a b p] w pos.line X.env = pure false := by cases w <;> rfl
  refine ⟨fun pins s0 σ H D' I hh => ?_⟩
  obtain ⟨F, G, θ, s, fl, s', R, ev, k⟩ := hh
  simp only [exS] at ev
  obtain ⟨t, s1, e1, ev⟩ := Rs.bind_eq ev
  obtain ⟨x, s2, e2, ev⟩ := Rs.bind_eq ev
  obtain ⟨y, s3, e3, ev⟩ := Rs.bind_eq ev
  split at ev
  · rename_i n i hh9
    split at ev
    · rename_i l el
      split at ev
      · rename_i j ej
        split at ev
        · rename_i tp
          cases ev
          refine (ps_asg hv (pg_sub ho hk set_list (by intro z; cases b <;> first | rfl | (exact nomatch hb))) h1 (by rfl) (by rfl)).run pins s0 σ H D' I ⟨F, G, θ, s, t, s1, R, e1, fun v1 H1 F1 θ1 R1 l1 p1 r1 => ⟨F1, G, θ1, s1, _, s2, R1, e2, fun v2 H2 F2 θ2 R2 l2 p2 r2 => ⟨F2, G, θ2, s2, _, s3, R2, e3, fun v3 H3 F3 θ3 R3 l3 p3 r3 => ?_⟩⟩⟩
          have r2' := (show Rp _ _ _ _ _ from r2).mono l3 p3
          cases (show Rp _ _ _ _ _ from r3)
          cases r2' with
          | ob hn =>
            obtain ⟨a', q1, q2, q3, zs, q4, q5⟩ := R3.m.ob n _ el (fun z => nomatch z)
            rw [hn] at q1
            cases q1
            obtain ⟨zs, rfl, q5⟩ := q5
            have rt := (r1.rp tp).mono (l2.trans l3) (p2.trans p3)
            exact ⟨_, zs, i, j, rfl, rfl, q4, by rw [q5.length]; exact ej, k _ _ F3 θ3 (R3.memUpd (l' := .lst (l.set j t)) el (fun z => nomatch z) hn ⟨_, rfl, q5.set rt j⟩) (l1.trans (l2.trans l3)) (p1.trans (p2.trans p3))⟩
        · cases ev
      · cases ev
    · cases ev
  · cases ev
set_option maxRecDepth 8000 in
theorem extW (l : Addr) (items : Array Value) (n : Nat) (b : Addr) (items2 : Array Value) (n2 : Nat) (dd : Option Addr) (sl : Array (Option Value)) (hs0 : ¬(!items.isEmpty && Builtin.List.listTooLong (items.size + items2.size)) = true) (hs1 : items.size ≤ sizeLine) (hs2 : items.size + items2.size ≤ sizeLine + 1) :
    Meets (Builtin.«list.extend» ⟨[.ref l, .ref b], []⟩) (fun _ R s => s.heap.get? l = some { cls := .type "list", dict := none, data := .seq items n, slots := #[] } ∧ s.heap.get? b = some { cls := .type "tuple", dict := dd, data := .seq items2 n2, slots := sl } ∧ R (.ok (.ret Value.none)) { s with heap := s.heap.update l (Obj.mapSeq fun x => x ++ items2), toks := s.toks }) :=
  .of_wp fun prog w A R s h => by
    obtain ⟨hp, g, d, tk, os⟩ := s; obtain ⟨hl, hb, h⟩ := h; have f1 := PySem.AutoSeq1.idx_int; have f2 := PySem.AutoSeq1.sub_tuple_tuple; have f3 := PySem.AutoSeq1.sub_list_list; have f4 := PySem.AutoSeq1.sub_tuple_list; have f5 := PySem.AutoSeq1.sub_list_tuple
    have hz' : (items ++ items2).size ≤ sizeLine + 1 := by rw [Array.size_append]; exact hs2
    wp_walk using (wpAny_updateSeq hl rfl (hz := hs1) (_hz' := hz')), PySem.AutoSeq1.wpAny_loadPart' hl, PySem.AutoSeq1.wpAny_loadPart' hb; exact ⟨_, rfl, h⟩
theorem mt_extendT : MtM X "list.extend" (fun x vs H Q => ∃ l b xs zs, x = .ref l ∧ vs = [.ref b] ∧ H l = some (.lst xs) ∧ SqT X.K H b zs ∧ xs.length + zs.length ≤ sizeLine ∧ Q .non (upd H l (.lst (xs ++ zs)))) := by
  intro pins s σ H x vs v us Q I rx rv h
  obtain ⟨l, b, xs, zs, rfl, rfl, hH, hB, hz, q⟩ := h
  cases rx
  obtain ⟨u, rfl, ru⟩ := rv.one
  cases ru
  obtain ⟨z, its, n, r, hl, e⟩ := I.lstM hH
  obtain ⟨its2, r2, ⟨⟨cls, dd, data, sl⟩, e2, hc, n2, hd⟩, hl2⟩ := I.tuple hB
  simp only at hc hd
  subst hc hd
  have len2' := r2.length
  have hsz : its.toArray.size + its2.toArray.size ≤ sizeLine := by rw [List.size_toArray, List.size_toArray]; omega
  have hlong : ¬ (!its.toArray.isEmpty && Builtin.List.listTooLong (its.toArray.size + its2.toArray.size)) = true := by
    rw [notLongL hsz, Bool.and_false]
    exact Bool.false_ne_true
  refine call_meets PySem.F.slot_list_extend ⟨_, e, rfl⟩ PySem.F.entry_list_extend (PySem.F.args_list_extend_2 _ _)
    (extW l its.toArray n b its2.toArray n2 dd sl hlong (by rw [List.size_toArray]; omega) (by omega)) ⟨e, e2, ?_⟩
  refine ⟨.non, _, I.lset (its' := its ++ its2) hH e (by simp) (r.append r2) ?_, rfl, q⟩
  rw [List.length_append]
  omega
/-! dicts, attributes, items of own lists -/
theorem set_dictD (hu : X.A.units + 64 < cLine) : PSet X (fun o i v H Q => ∃ a H', o = .ref a ∧ DP X.prog X.w X.K H a i v H' ∧ Q H') := by
  intro pins s σ H o i v ov iv u Q I ro ri rv h
  obtain ⟨a, H', rfl, g, q⟩ := h
  obtain rfl : ov = Value.ref a := ro
  exact g_setItem (by omega) I g ri rv fun s' I' => ⟨H', I', q⟩
theorem putV_any {κ : Type} [DecidableEq κ] (k : κ) (kvs : List (κ × V)) : ((kvs.map (·.1)).any fun x => decide (x = k)) = kvs.any fun kv => decide (kv.1 = k) := by
  rw [List.any_map]; rfl
theorem putV_ok {κ : Type} [DecidableEq κ] {k : κ} {t : Tr} {v : V} (r : Rp K F θ t v) {kvs : List (κ × V)} {vs : List Tr} (h : Rps K F θ vs (kvs.map (·.2))) :
    (putK kvs k v).map (·.1) = (putV (kvs.map (·.1)) vs k t).1 ∧ Rps K F θ (putV (kvs.map (·.1)) vs k t).2 ((putK kvs k v).map (·.2)) := by
  unfold putV putK
  rw [putV_any]
  split
  · constructor
    · rw [List.map_map]
      apply List.map_congr_left
      intro p _
      show (if p.1 = k then (p.1, v) else p).1 = p.1
      split <;> rfl
    · have go : ∀ {kvs : List (κ × V)} {vs : List Tr}, Rps K F θ vs (kvs.map (·.2)) → Rps K F θ (List.zipWith (fun k' v' => if k' = k then t else v') (kvs.map (·.1)) vs) ((kvs.map fun kv => if kv.1 = k then (kv.1, v) else kv).map (·.2)) := by
        intro kvs
        induction kvs with
        | nil => intro vs h; cases h; exact .nil
        | cons p kvs ih =>
          intro vs h
          cases h with
          | cons h1 h2 =>
            rw [List.map_cons, List.map_cons, List.map_cons, List.zipWith_cons_cons]
            refine .cons ?_ (ih h2)
            show Rp K F θ (if p.1 = k then t else _) (if p.1 = k then (p.1, v) else p).2
            split
            · exact r
            · exact h1
      exact go h
  · exact ⟨by rw [List.map_append]; rfl, by rw [List.map_append]; exact h.append (.cons r .nil)⟩
theorem putD_ok {k : List Key} {t : Tr} {v : V} {b : Addr} (r : Rp K F θ t v) (hb : SqT K F b (k.map kV)) {kvs : List (List Key × Addr × V)} {vs : List Tr} (h : Rps K F θ vs (kvs.map (·.2.2))) (hk : ∀ p ∈ kvs, SqT K F p.2.1 (p.1.map kV)) :
    (putD kvs k b v).map (·.1) = (putV (kvs.map (·.1)) vs k t).1 ∧ Rps K F θ (putV (kvs.map (·.1)) vs k t).2 ((putD kvs k b v).map (·.2.2)) ∧ ∀ p ∈ putD kvs k b v, SqT K F p.2.1 (p.1.map kV) := by
  unfold putV putD
  have ea : ((kvs.map (·.1)).any fun x => decide (x = k)) = kvs.any fun kv => decide (kv.1 = k) := by
    rw [List.any_map]; rfl
  rw [ea]
  split
  · refine ⟨?_, ?_, fun p hp => ?_⟩
    · rw [List.map_map]
      apply List.map_congr_left
      intro p _
      show (if p.1 = k then (p.1, p.2.1, v) else p).1 = p.1
      split <;> rfl
    · have go : ∀ {kvs : List (List Key × Addr × V)} {vs : List Tr}, Rps K F θ vs (kvs.map (·.2.2)) → Rps K F θ (List.zipWith (fun k' v' => if k' = k then t else v') (kvs.map (·.1)) vs) ((kvs.map fun kv => if kv.1 = k then (kv.1, kv.2.1, v) else kv).map (·.2.2)) := by
        intro kvs
        induction kvs with
        | nil => intro vs h; cases h; exact .nil
        | cons p kvs ih =>
          intro vs h
          cases h with
          | cons h1 h2 =>
            rw [List.map_cons, List.map_cons, List.map_cons, List.zipWith_cons_cons]
            refine .cons ?_ (ih h2)
            show Rp K F θ (if p.1 = k then t else _) (if p.1 = k then (p.1, p.2.1, v) else p).2.2
            split
            · exact r
            · exact h1
      exact go h
    · obtain ⟨q, hq, rfl⟩ := List.mem_map.mp hp
      split
      · exact hk q hq
      · exact hk q hq
  · refine ⟨by rw [List.map_append]; rfl, by rw [List.map_append]; exact h.append (.cons r .nil), fun p hp => ?_⟩
    rcases List.mem_append.mp hp with hp | hp
    · exact hk p hp
    · simp at hp
      subst hp
      exact hb
theorem setF_ok {f : Str} {t : Tr} {v : V} (r : Rp K F θ t v) : ∀ {fs : List (Str × V)} {l : List Tr}, Rps K F θ l (fs.map (·.2)) → (putF f v fs).map (·.1) = (setF (fs.map (·.1)) l f t).1 ∧ Rps K F θ (setF (fs.map (·.1)) l f t).2 ((putF f v fs).map (·.2))
  | [], l, h => by
    cases h
    exact ⟨rfl, .cons r .nil⟩
  | (g, x) :: fs, l, h => by
    cases h with
    | cons h1 h2 =>
      obtain ⟨i1, i2⟩ := setF_ok (f := f) r h2
      rw [show putF f v ((g, x) :: fs) = (if g = f then (g, v) :: fs else (g, x) :: putF f v fs) from rfl]
      simp only [List.map_cons, setF]
      split
      · exact ⟨rfl, .cons r h2⟩
      · exact ⟨by rw [List.map_cons, i1], .cons h1 i2⟩
theorem sOwnD (C : Cxt D gc cf X sc) {i : Nat} {t : Bool} {x : Str} {px p2 pos : Pos} (hN : X.N[i]? = some x) (hl : locB sc x = true) : PS X (.Assign [.Name x px] (.Dict [] [] p2) pos) (RS gc cf wf (MX D.cl X) (.ownD i t)) := by
  obtain ⟨h1, h2⟩ := C.loc x hl
  refine ⟨fun pins s0 σ H D' I hh => ?_⟩
  obtain ⟨F, G, θ, s, fl, s', R, ev, k⟩ := hh
  simp only [exS] at ev
  split at ev
  · rename_i hi
    cases ev
    cases t with
    | false => exact (ps_set C.nd hN h1 pe_dnewK rfl h2).run pins s0 σ H D' I fun p np => k _ _ F θ (R.ownNew (l := .dk [] []) np ⟨[], rfl, rfl, .nil⟩ hi) (FLe.refl F) (List.prefix_refl _)
    | true => exact (ps_set C.nd hN h1 pe_dnewT' rfl h2).run pins s0 σ H D' I fun p np => k _ _ F θ (R.ownNew (l := .dt [] []) np ⟨[], rfl, rfl, .nil, fun p hp => by cases hp⟩ hi) (FLe.refl F) (List.prefix_refl _)
  · cases ev
theorem sDput (C : Cxt D gc cf X sc) {i : Nat} {kk v : Ex} {x : Str} {b w : Expr} {px p pos : Pos} (hN : X.N[i]? = some x) (hv' : Vis X.env.scope x) (hkn : okN x = true) (hb : isSlice b = false) (hk : PE X b (RE gc cf (MX D.cl X) kk)) (hv : PE X w (RE gc cf (MX D.cl X) v)) : PS X (.Assign [.Subscript (.Name x px) b p] w pos) (RS gc cf wf (MX D.cl X) (.dput i kk v)) := by
  obtain ⟨k1, k2⟩ := okN_ok hkn
  have h1 : swapsWithSole [.Subscript (.Name x px) b p] w pos.line X.env = pure false := by cases w <;> rfl
  refine ⟨fun pins s0 σ H D' I hh => ?_⟩
  obtain ⟨F, G, θ, s, fl, s', R, ev, k⟩ := hh
  simp only [exS] at ev
  obtain ⟨t, s1, e1, ev⟩ := Rs.bind_eq ev
  split at ev <;> first | (cases ev; done) | skip
  rename_i o1 en1
  obtain ⟨y, s2, e2, ev⟩ := Rs.bind_eq ev
  refine (ps_asg hv (pg_sub (pe_var (i := i) hN hv' k1 k2) hk (set_dictD C.u64) (by intro z; cases b <;> first | rfl | (exact nomatch hb))) h1 (by rfl) (by rfl)).run pins s0 σ H D' I ⟨F, G, θ, s, t, s1, R, e1, fun v1 H1 F1 θ1 R1 l1 p1 r1 => ?_⟩
  obtain ⟨a, oh, ea, _⟩ := R1.slot i _ en1
  refine ⟨_, ea, F1, G, θ1, s1, y, s2, R1, e2, fun v2 H2 F2 θ2 R2 l2 p2 r2 => ?_⟩
  split at ev
  · rename_i ks vs en2
    split at ev
    · rename_i key ek
      split at ev
      · rename_i hc
        obtain ⟨h3, h4⟩ := and2 hc
        have h4 := of_decide_eq_true h4
        cases ev
        obtain ⟨o, hx, f, g, tt, kvs, rfl, q1, q2⟩ := R2.ownAt en2 ea
        subst q1
        have py : y.pure = true := by cases y <;> first | rfl | cases ek
        obtain ⟨z1, z2⟩ := putV_ok (k := key) ((r1.rp h3).mono l2 p2) q2
        refine ⟨a, _, rfl, .inl ⟨kvs, key, hx, keyT_ok ek (RpH.of R2.m.fle (r2.rp py)), by rw [List.length_map] at h4; exact h4, rfl⟩, ?_⟩
        exact k _ _ F2 θ2 (R2.ownUpd (l' := .dk _ _) en2 ea ⟨_, rfl, z1, z2⟩) (l1.trans l2) (p1.trans p2)
      · cases ev
    · cases ev
  · rename_i ks vs en2
    split at ev
    · rename_i l
      split at ev
      · rename_i key ek
        split at ev
        · rename_i hc
          obtain ⟨h3, h4⟩ := and2 hc
          have h4 := of_decide_eq_true h4
          cases ev
          obtain ⟨o, hx, f, g, tt, kvs, rfl, q1, q2, q3⟩ := R2.ownAt en2 ea
          subst q1
          cases (show Rp _ _ _ _ _ from r2) with
          | tup hq hr =>
            obtain rfl := keysT_ok R2.m.fle ek hr
            obtain ⟨z1, z2, z3⟩ := putD_ok ((r1.rp h3).mono l2 p2) hq q2 q3
            refine ⟨a, _, rfl, .inr ⟨kvs, key, _, hx, fun p hp => R2.m.fle.tup (q3 p hp), rfl, R2.m.fle.tup hq, by rw [List.length_map] at h4; exact h4, rfl⟩, ?_⟩
            exact k _ _ F2 θ2 (R2.ownUpd (l' := .dt _ _) en2 ea ⟨_, rfl, z1, z2, z3⟩) (l1.trans l2) (p1.trans p2)
        · cases ev
      · cases ev
    · cases ev
  · cases ev
theorem sSetAt (C : Cxt D gc cf X sc) {i : Nat} {kk v : Ex} {x : Str} {b w : Expr} {px p pos : Pos} (hN : X.N[i]? = some x) (hv' : Vis X.env.scope x) (hkn : okN x = true) (hb : isSlice b = false) (hk : PE X b (RE gc cf (MX D.cl X) kk)) (hv : PE X w (RE gc cf (MX D.cl X) v)) : PS X (.Assign [.Subscript (.Name x px) b p] w pos) (RS gc cf wf (MX D.cl X) (.setAt i kk v)) := by
  obtain ⟨k1, k2⟩ := okN_ok hkn
  have h1 : swapsWithSole [.Subscript (.Name x px) b p] w pos.line X.env = pure false := by cases w <;> rfl
  refine ⟨fun pins s0 σ H D' I hh => ?_⟩
  obtain ⟨F, G, θ, s, fl, s', R, ev, k⟩ := hh
  simp only [exS] at ev
  obtain ⟨t, s1, e1, ev⟩ := Rs.bind_eq ev
  split at ev <;> first | (cases ev; done) | skip
  rename_i o1 en1
  obtain ⟨y, s2, e2, ev⟩ := Rs.bind_eq ev
  refine (ps_asg hv (pg_sub (pe_var (i := i) hN hv' k1 k2) hk set_list (by intro z; cases b <;> first | rfl | (exact nomatch hb))) h1 (by rfl) (by rfl)).run pins s0 σ H D' I ⟨F, G, θ, s, t, s1, R, e1, fun v1 H1 F1 θ1 R1 l1 p1 r1 => ?_⟩
  obtain ⟨a, oh, ea, _⟩ := R1.slot i _ en1
  refine ⟨_, ea, F1, G, θ1, s1, y, s2, R1, e2, fun v2 H2 F2 θ2 R2 l2 p2 r2 => ?_⟩
  split at ev
  · rename_i l z en2
    split at ev
    · rename_i j ej
      split at ev
      · rename_i h3
        cases ev
        obtain ⟨o, hx, f, g, tt, xs, rfl, q⟩ := R2.ownAt en2 ea
        cases (show Rp _ _ _ _ _ from r2)
        exact ⟨a, xs, z, j, rfl, rfl, hx, by rw [q.length]; exact ej, k _ _ F2 θ2 (R2.ownUpd (l' := .lst _) en2 ea ⟨_, rfl, q.set ((r1.rp h3).mono l2 p2) j⟩) (l1.trans l2) (p1.trans p2)⟩
      · cases ev
    · cases ev
  · cases ev
theorem sFset (C : Cxt D gc cf X sc) {o e : Ex} {f : Str} {a v : Expr} {p pos : Pos} (hf : f ∈ D.fl) (ho : PE X a (RE gc cf (MX D.cl X) o)) (he : PE X v (RE gc cf (MX D.cl X) e)) (hc : isCompE v = false) : PS X (.Assign [.Attribute a f p] v pos) (RS gc cf wf (MX D.cl X) (.fset o f e)) := by
  refine ⟨fun pins s0 σ H D' I hh => ?_⟩
  obtain ⟨F, G, θ, s, fl, s', R, ev, k⟩ := hh
  simp only [exS] at ev
  obtain ⟨t, s1, e1, ev⟩ := Rs.bind_eq ev
  obtain ⟨x, s2, e2, ev⟩ := Rs.bind_eq ev
  refine (ps_fld ho he (swaps_no hc)).run pins s0 σ H D' I ⟨F, G, θ, s, t, s1, R, e1, fun v1 H1 F1 θ1 R1 l1 p1 r1 => ⟨F1, G, θ1, s1, x, s2, R1, e2, fun v2 H2 F2 θ2 R2 l2 p2 r2 => ?_⟩⟩
  split at ev
  · rename_i n
    split at ev
    · rename_i c ns l em
      split at ev
      · rename_i hcc
        obtain ⟨h3, h4⟩ := and2 hcc
        have h4 := of_decide_eq_true h4
        cases ev
        cases (show Rp _ _ _ _ _ from r2) with
        | ob hn =>
          obtain ⟨a', q1, q2, q3, zs, q4, q5⟩ := R2.m.ob n _ em (fun z => nomatch z)
          rw [hn] at q1
          cases q1
          obtain ⟨C0, dx, fs, rfl, g2, g3, g4, g5⟩ := q5
          subst g4
          obtain ⟨C1, c1, c2⟩ := C.cls c g2
          have e9 : C1 = C0 := by
            have := c1.symm.trans g3
            injection this with this
            injection this
          subst e9
          obtain ⟨z1, z2⟩ := setF_ok (f := f) ((r1.rp h3).mono l2 p2) g5
          refine ⟨_, C1, dx, fs, rfl, q4, c2.cl, c2.na f hf, by rw [List.length_map] at h4; exact h4, ?_⟩
          exact k _ _ F2 θ2 (R2.memUpd (l' := .ins c _ _) em (fun z => nomatch z) hn ⟨C1, dx, _, rfl, g2, g3, z1, z2⟩) (l1.trans l2) (p1.trans p2)
      · cases ev
    · cases ev
  · cases ev
/-- own lists made by a slice -/
theorem sOwnSl (C : Cxt D gc cf X sc) {i : Nat} {a lo hi : Ex} {x : Str} {y : Expr} {l h : Option Expr} {px p2 p3 pos : Pos} (hN : X.N[i]? = some x) (hl : locB sc x = true) (ha : PE X y (RE gc cf (MX D.cl X) a)) (hlo : PO X l (RO gc cf (MX D.cl X) lo)) (hhi : PO X h (RO gc cf (MX D.cl X) hi)) :
    PS X (.Assign [.Name x px] (.Subscript y (.Slice l h none p2) p3) pos) (RS gc cf wf (MX D.cl X) (.ownE i (.sl a lo hi))) := by
  obtain ⟨h1, h2⟩ := C.loc x hl
  refine ⟨fun pins s0 σ H D' I hh => ?_⟩
  obtain ⟨F, G, θ, s, fl, s', R, ev, k⟩ := hh
  simp only [exS, evX, fin] at ev
  obtain ⟨t, s9, e0, ev⟩ := Rs.bind_eq ev
  obtain ⟨x1, s1, e1, e2⟩ := Rs.bind_eq e0
  obtain ⟨lo', s2, e3, e2⟩ := Rs.bind_eq e2
  obtain ⟨hi', s3, e4, e2⟩ := Rs.bind_eq e2
  obtain ⟨e5, rfl⟩ := Rs.of_eq e2
  clear e0 e2
  have ht : ∃ ll, t = .lst ll := by
    cases t with
    | lst ll => exact ⟨ll, rfl⟩
    | _ => exact nomatch ev
  obtain ⟨ll, rfl⟩ := ht
  · replace ev : (if i < s3.env.length then Rs.ok Fl.next (⟨s3.env.set i (.own (.lst ll)), s3.mem⟩ : Sta) else .no) = .ok fl s' := ev
    split at ev
    · rename_i hi9
      cases ev
      refine (ps_set C.nd hN h1 (pe_slice (sl_tupA.or (sl_list.or sl_str)) ha hlo hhi) rfl h2).run pins s0 σ H D' I ⟨F, G, θ, s, x1, s1, R, e1, fun v H1 F1 θ1 R1 l1 p1 r1 => ⟨F1, G, θ1, s1, lo', s2, R1, e3, fun H2 F2 θ2 R2 l2 p2 => ⟨F2, G, θ2, s2, hi', _, R2, e4, fun H3 F3 θ3 R3 l3 p3 => ?_⟩⟩⟩
      have rd := R3.read (r1.mono (l2.trans l3) (p2.trans p3)) (slT_nb e5)
      have lst : ∃ m, seqT (s3.deref x1) = some m ∧ ll = cutT m lo' hi' ∧ isTupT (s3.deref x1) = false := by
        cases e9 : s3.deref x1 with
        | lst m => rw [e9] at e5; simp only [slT] at e5; cases e5; exact ⟨m, rfl, rfl, rfl⟩
        | flst m => rw [e9] at e5; simp only [slT] at e5; cases e5; exact ⟨m, rfl, rfl, rfl⟩
        | str z => rw [e9] at e5; simp only [slT] at e5; split at e5 <;> cases e5
        | tup m => rw [e9] at e5; simp only [slT] at e5; cases e5
        | _ => rw [e9] at e5; simp only [slT] at e5; cases e5
      obtain ⟨m, m1, m2, m3⟩ := lst
      have sq : ∃ a xs, v = .ref a ∧ SqL X.K H3 a xs ∧ Rps (MX D.cl X) F3 θ3 m xs := by
        cases e9 : s3.deref x1 with
        | lst m' => rw [e9] at m1 rd; cases m1; obtain ⟨a, xs, rfl, q, r⟩ := rd; exact ⟨a, xs, rfl, SqL.of q, r⟩
        | flst m' => rw [e9] at m1 rd; cases m1; obtain ⟨a, xs, rfl, q, r⟩ := flstH rd R3.m.fle; exact ⟨a, xs, rfl, q, r⟩
        | tup m' => rw [e9] at m3; cases m3
        | _ => rw [e9] at m1; cases m1
      obtain ⟨aa, xs, rfl, q, r⟩ := sq
      exact .inr (.inl ⟨aa, xs, rfl, q, fun p np => k _ _ F3 θ3 (R3.ownNew (l := .lst ll) np ⟨_, rfl, by rw [m2]; exact cut_rps r⟩ hi9) (l1.trans (l2.trans l3)) (p1.trans (p2.trans p3))⟩)
    · cases ev
/-- own lists made by a sum -/
theorem sOwnAdd (C : Cxt D gc cf X sc) {i : Nat} {a b : Ex} {x : Str} {y z : Expr} {px p2 pos : Pos} (hN : X.N[i]? = some x) (hl : locB sc x = true) (ha : PE X y (RE gc cf (MX D.cl X) a)) (hb : PE X z (RE gc cf (MX D.cl X) b)) :
    PS X (.Assign [.Name x px] (.BinOp y .Add z p2) pos) (RS gc cf wf (MX D.cl X) (.ownE i (.bin .add a b))) := by
  obtain ⟨h1, h2⟩ := C.loc x hl
  refine ⟨fun pins s0 σ H D' I hh => ?_⟩
  obtain ⟨F, G, θ, s, fl, s', R, ev, k⟩ := hh
  simp only [exS, evX, fin] at ev
  obtain ⟨t, s9, e0, ev⟩ := Rs.bind_eq ev
  obtain ⟨x1, s1, e1, e2⟩ := Rs.bind_eq e0
  obtain ⟨y1, s2, e3, e4⟩ := Rs.bind_eq e2
  obtain ⟨e5, rfl⟩ := Rs.of_eq e4
  clear e0 e2 e4
  have ht : ∃ ll, t = .lst ll := by
    cases t with
    | lst ll => exact ⟨ll, rfl⟩
    | _ => exact nomatch ev
  obtain ⟨ll, rfl⟩ := ht
  replace ev : (if i < s2.env.length then Rs.ok Fl.next (⟨s2.env.set i (.own (.lst ll)), s2.mem⟩ : Sta) else .no) = .ok fl s' := ev
  split at ev
  · rename_i hi9
    cases ev
    obtain ⟨n1, n2⟩ := opB_nb e5
    have both : ∃ la lb, s2.deref x1 = .lst la ∧ s2.deref y1 = .lst lb ∧ la.length + lb.length ≤ sizeLine ∧ ll = la ++ lb := by
      generalize s2.deref x1 = u1 at e5
      generalize s2.deref y1 = u2 at e5
      cases u1 <;> cases u2 <;> simp only [opB] at e5 <;> first
        | (cases e5; done)
        | (injection e5 with e5; cases e5; done)
        | (split at e5 <;> first | (cases e5; done) | (injection e5 with e5; cases e5; done) | (rename_i hz; injection e5 with e5; injection e5 with e5; exact ⟨_, _, rfl, rfl, hz, e5.symm⟩))
    obtain ⟨la, lb, d1, d2, hz, rfl⟩ := both
    refine (ps_set C.nd hN h1 (pe_op op_cat ha hb) rfl h2).run pins s0 σ H D' I ⟨F, G, θ, s, x1, s1, R, e1, fun v H1 F1 θ1 R1 l1 p1 r1 => ⟨F1, G, θ1, s1, y1, s2, R1, e3, fun w H2 F2 θ2 R2 l2 p2 r2 => ?_⟩⟩
    have q1 := R2.read (r1.mono l2 p2) n1
    have q2 := R2.read r2 n2
    rw [d1] at q1
    rw [d2] at q2
    obtain ⟨aa, xs, rfl, ha', qa⟩ := q1
    obtain ⟨bb, ys, rfl, hb', qb⟩ := q2
    exact ⟨aa, bb, xs, ys, rfl, rfl, ha', hb', by rw [qa.length, qb.length]; exact hz, fun p np => k _ _ F2 θ2 (R2.ownNew (l := .lst (la ++ lb)) np ⟨_, rfl, qa.append qb⟩ hi9) (l1.trans l2) (p1.trans p2)⟩
  · cases ev
end
end Ev
/-! Soundness of statements: append, several names at once, small ones, loops. -/
namespace Ev
open PySem PySem.Spec L2
open PyProof.Rows hiding St
section
variable {D : Ds} {gc : Nat → Option Tr} {cf : CF} {wf : Nat} {X : Cx} {sc : Scope} {K : Mx} {F F' G H : Hp} {θ θ' : List Addr} {s : Sta} {σ : St}
theorem sApp {i : Nat} {e : Ex} {x : Str} {p2 ap cp pos : Pos} {z : Expr} (hN : X.N[i]? = some x) (hv : Vis X.env.scope x) (hk : okN x = true) (hl : (ap.endLine == cp.line) = true) (hst : isStar z = false) (he : PE X z (RE gc cf (MX D.cl X) e)) :
    PS X (.Expr (.Call (.Attribute (.Name x p2) "append" ap) [z] [] cp) pos) (RS gc cf wf (MX D.cl X) (.app i e)) := by
  obtain ⟨k1, k2⟩ := okN_ok hk
  refine ⟨fun pins s0 σ H D' I hh => ?_⟩
  obtain ⟨F, G, θ, s, fl, s', R, ev, k⟩ := hh
  simp only [exS] at ev
  split at ev
  · rename_i l0 en
    obtain ⟨t, s1, e1, ev⟩ := Rs.bind_eq ev
    split at ev
    · rename_i l en1
      split at ev
      · rename_i hc
        obtain ⟨h1, h2⟩ := and2 hc
        cases ev
        obtain ⟨a, o0, ea, ha, _, _, _, xs0, rfl, q0⟩ := R.slot i _ en
        refine (ps_expr (pe_bm PySem.F.plainAttrs_list PySem.F.slot_list_append PySem.F.type_list_append mt_append (pe_var (i := i) hN hv k1 k2) (pa_cons he pa_nil (star_cons hst)) (by rfl) (few1 hst) hl (star_cons hst) (by rfl)) rfl).run pins s0 σ H D' I ⟨_, ea, .inl ⟨rfl, _, SqL.of ha⟩, F, G, θ, s, t, s1, R, e1, fun v H1 F1 θ1 R1 l1 p1 r1 => ?_⟩
        obtain ⟨o1, hx, f, g, tt, xs, rfl, q⟩ := R1.ownAt en1 ea
        refine ⟨a, xs, v, rfl, rfl, hx, by rw [q.length]; exact of_decide_eq_true h2, k _ _ F1 θ1 (R1.ownUpd (l' := .lst (l ++ [t])) en1 ea ⟨_, rfl, q.append (.cons (r1.rp h1) .nil)⟩) l1 p1⟩
      · cases ev
    · cases ev
  · cases ev
theorem sExt {i : Nat} {e : Ex} {x : Str} {p2 ap cp pos : Pos} {z : Expr} (hN : X.N[i]? = some x) (hv : Vis X.env.scope x) (hk : okN x = true) (hl : (ap.endLine == cp.line) = true) (hst : isStar z = false) (he : PE X z (RE gc cf (MX D.cl X) e)) :
    PS X (.Expr (.Call (.Attribute (.Name x p2) "extend" ap) [z] [] cp) pos) (RS gc cf wf (MX D.cl X) (.ext i e)) := by
  obtain ⟨k1, k2⟩ := okN_ok hk
  refine ⟨fun pins s0 σ H D' I hh => ?_⟩
  obtain ⟨F, G, θ, s, fl, s', R, ev, k⟩ := hh
  simp only [exS] at ev
  split at ev
  · rename_i l0 en
    obtain ⟨t, s1, e1, ev⟩ := Rs.bind_eq ev
    obtain ⟨a, o0, ea, ha, _, _, _, xs0, rfl, q0⟩ := R.slot i _ en
    split at ev
    · rename_i l m en1
      split at ev
      · rename_i hc
        cases ev
        refine (ps_expr (pe_bm PySem.F.plainAttrs_list PySem.F.slot_list_extend PySem.F.type_list_extend mt_extend (pe_var (i := i) hN hv k1 k2) (pa_cons he pa_nil (star_cons hst)) (by rfl) (few1 hst) hl (star_cons hst) (by rfl)) rfl).run pins s0 σ H D' I ⟨_, ea, .inl ⟨rfl, _, SqL.of ha⟩, F, G, θ, s, _, s1, R, e1, fun v H1 F1 θ1 R1 l1 p1 r1 => ?_⟩
        obtain ⟨o1, hx, f, g, tt, xs, rfl, q⟩ := R1.ownAt en1 ea
        obtain ⟨b, ys, rfl, hb, qb⟩ := RpH.of R1.m.fle (r1.rp rfl)
        exact ⟨a, b, xs, ys, rfl, rfl, hx, hb, by rw [q.length, qb.length]; exact hc, k _ _ F1 θ1 (R1.ownUpd (l' := .lst (l ++ m)) en1 ea ⟨_, rfl, q.append qb⟩) l1 p1⟩
      · cases ev
    · rename_i l m en1
      split at ev
      · rename_i hc
        cases ev
        refine (ps_expr (pe_bm PySem.F.plainAttrs_list PySem.F.slot_list_extend PySem.F.type_list_extend mt_extendT (pe_var (i := i) hN hv k1 k2) (pa_cons he pa_nil (star_cons hst)) (by rfl) (few1 hst) hl (star_cons hst) (by rfl)) rfl).run pins s0 σ H D' I ⟨_, ea, .inl ⟨rfl, _, SqL.of ha⟩, F, G, θ, s, _, s1, R, e1, fun v H1 F1 θ1 R1 l1 p1 r1 => ?_⟩
        obtain ⟨o1, hx, f, g, tt, xs, rfl, q⟩ := R1.ownAt en1 ea
        obtain ⟨b, ys, rfl, hb, qb, _⟩ := tupH (RpH.of R1.m.fle (r1.rp rfl)) R1.m.fle
        exact ⟨a, b, xs, ys, rfl, rfl, hx, hb, by rw [q.length, qb.length]; exact hc, k _ _ F1 θ1 (R1.ownUpd (l' := .lst (l ++ m)) en1 ea ⟨_, rfl, q.append qb⟩) l1 p1⟩
      · cases ev
    · cases ev
  · cases ev
theorem sExp {e : Ex} {v : Expr} {pos : Pos} (hv : isCompE v = false) (he : PE X v (RE gc cf (MX D.cl X) e)) : PS X (.Expr v pos) (RS gc cf wf (MX D.cl X) (.ex e)) := by
  refine ⟨fun pins s0 σ H D' I hh => ?_⟩
  obtain ⟨F, G, θ, s, fl, s', R, ev, k⟩ := hh
  simp only [exS] at ev
  obtain ⟨t, s1, e1, ev⟩ := Rs.bind_eq ev
  cases ev
  exact (ps_expr he (swaps_no hv)).run pins s0 σ H D' I ⟨F, G, θ, s, t, _, R, e1, fun v H1 F1 θ1 R1 l1 p1 r1 => k σ H1 F1 θ1 R1 l1 p1⟩
theorem sRet {e : Ex} {v : Expr} {pos : Pos} (he : PE X v (RE gc cf (MX D.cl X) e)) : PS X (.Return (some v) pos) (RS gc cf wf (MX D.cl X) (.ret e)) := by
  refine ⟨fun pins s0 σ H D' I hh => ?_⟩
  obtain ⟨F, G, θ, s, fl, s', R, ev, k⟩ := hh
  simp only [exS] at ev
  obtain ⟨t, s1, e1, ev⟩ := Rs.bind_eq ev
  split at ev
  · rename_i hp
    cases ev
    exact (ps_ret he).run pins s0 σ H D' I ⟨F, G, θ, s, t, _, R, e1, fun v H1 F1 θ1 R1 l1 p1 r1 => k v σ H1 F1 θ1 R1 l1 p1 (r1.rp hp)⟩
  · cases ev
theorem sRetN {pos : Pos} : PS X (.Return none pos) (RS gc cf wf (MX D.cl X) .retN) := by
  refine ⟨fun pins s0 σ H D' I hh => ?_⟩
  obtain ⟨F, G, θ, s, fl, s', R, ev, k⟩ := hh
  simp only [exS] at ev
  cases ev
  exact ps_retN.run pins s0 σ H D' I (k .non σ H F θ R (FLe.refl F) (List.prefix_refl _) .non)
theorem sBrk {pos : Pos} : PS X (.Break pos) (RS gc cf wf (MX D.cl X) .brk) := by
  refine ⟨fun pins s0 σ H D' I hh => ?_⟩
  obtain ⟨F, G, θ, s, fl, s', R, ev, k⟩ := hh
  simp only [exS] at ev
  cases ev
  exact ps_break.run pins s0 σ H D' I (k σ H F θ R (FLe.refl F) (List.prefix_refl _))
theorem sCont {pos : Pos} : PS X (.Continue pos) (RS gc cf wf (MX D.cl X) .cont) := by
  refine ⟨fun pins s0 σ H D' I hh => ?_⟩
  obtain ⟨F, G, θ, s, fl, s', R, ev, k⟩ := hh
  simp only [exS] at ev
  cases ev
  exact ps_continue.run pins s0 σ H D' I (k σ H F θ R (FLe.refl F) (List.prefix_refl _))
theorem sPass {pos : Pos} : PS X (.Pass pos) (RS gc cf wf (MX D.cl X) .pass) := by
  refine ⟨fun pins s0 σ H D' I hh => ?_⟩
  obtain ⟨F, G, θ, s, fl, s', R, ev, k⟩ := hh
  simp only [exS] at ev
  cases ev
  exact ps_pass.run pins s0 σ H D' I (k σ H F θ R (FLe.refl F) (List.prefix_refl _))
theorem bl_onlyF {r : Rs Tr} {f : Sta → Rs Fl} {g : Sta → Rs Fl} {t : Fl} {s' : Sta} (h : (r.bind fun x s1 => match x with
    | .bl true => f s1
    | .bl false => g s1
    | _ => .no) = .ok t s') : ∃ b s1, r = .ok (.bl b) s1 ∧ (if b = true then f s1 else g s1) = .ok t s' := by
  obtain ⟨x, s1, e1, e2⟩ := Rs.bind_eq h
  cases x with
  | bl b => cases b <;> exact ⟨_, s1, e1, e2⟩
  | _ => cases e2
theorem sIf {c : Ex} {a b : List Sm} {t : Expr} {x y : List Stmt} {pos : Pos} (hc : PT X t (RT gc cf (MX D.cl X) c)) (ha : PSs X x (RSs gc cf wf (MX D.cl X) a)) (hb : PSs X y (RSs gc cf wf (MX D.cl X) b)) : PS X (.If t x y pos) (RS gc cf wf (MX D.cl X) (.ite c a b)) := by
  refine ⟨fun pins s0 σ H D' I hh => ?_⟩
  obtain ⟨F, G, θ, s, fl, s', R, ev, k⟩ := hh
  simp only [exS] at ev
  obtain ⟨d, s1, e1, e2⟩ := bl_onlyF ev
  refine (ps_if hc ha hb).run pins s0 σ H D' I ⟨F, G, θ, s, d, s1, R, e1, fun H1 F1 θ1 R1 l1 p1 => ?_⟩
  cases d with
  | true => exact ⟨F1, G, θ1, s1, fl, s', R1, e2, k.mono l1 p1⟩
  | false => exact ⟨F1, G, θ1, s1, fl, s', R1, e2, k.mono l1 p1⟩
theorem sNil : PSs X [] (RSs gc cf wf (MX D.cl X) []) := by
  refine ⟨fun pins s0 σ H D' I hh => ?_⟩
  obtain ⟨F, G, θ, s, fl, s', R, ev, k⟩ := hh
  simp only [exSs] at ev
  cases ev
  exact pss_nil.run pins s0 σ H D' I (k σ H F θ R (FLe.refl F) (List.prefix_refl _))
theorem sCons {a : Sm} {b : List Sm} {x : Stmt} {y : List Stmt} (ha : PS X x (RS gc cf wf (MX D.cl X) a)) (hb : PSs X y (RSs gc cf wf (MX D.cl X) b)) : PSs X (x :: y) (RSs gc cf wf (MX D.cl X) (a :: b)) := by
  refine ⟨fun pins s0 σ H D' I hh => ?_⟩
  obtain ⟨F, G, θ, s, fl, s', R, ev, k⟩ := hh
  simp only [exSs] at ev
  obtain ⟨f, s1, e1, e2⟩ := Rs.bind_eq ev
  refine (pss_cons ha hb).run pins s0 σ H D' I ⟨F, G, θ, s, f, s1, R, e1, ?_⟩
  cases f with
  | next => exact fun σ1 H1 F1 θ1 R1 l1 p1 => ⟨F1, G, θ1, s1, fl, s', R1, e2, k.mono l1 p1⟩
  | brk => cases e2; exact k
  | cont => cases e2; exact k
  | ret t => cases e2; exact k
theorem Cxt.passes (C : Cxt D gc cf X sc) : PassesOwn (model X.prog X.w) X.A X.env X.xe := by rw [C.xe]; exact PassesOwn.never
theorem sWhile (C : Cxt D gc cf X sc) {c : Ex} {b : List Sm} {t : Expr} {y : List Stmt} {pos : Pos} (hc : PT X t (RT gc cf (MX D.cl X) c)) (hb : PSs X y (RSs gc cf wf (MX D.cl X) b)) : PS X (.While t y [] pos) (RS gc cf wf (MX D.cl X) (.whl c b)) := by
  refine ⟨fun pins s0 σ H D' I hh => ?_⟩
  obtain ⟨F, G, θ, s, fl, s', R, ev, k⟩ := hh
  simp only [exS] at ev
  refine (ps_while C.passes hc hb).run pins s0 σ H D' I ⟨fun m σ H => ∃ F1 θ1 s1, Rel (MX D.cl X) F1 G θ1 s1 σ H ∧ FLe F F1 ∧ θ <+: θ1 ∧ whGo (evX gc cf c true) (exSs gc cf wf b) m s1 = .ok fl s', ⟨wf, F, θ, s, R, FLe.refl F, List.prefix_refl _, ev⟩, ?_⟩
  rintro m σ1 H1 ⟨F1, θ1, s1, R1, l1, p1, ev⟩
  cases m with
  | zero => simp only [whGo] at ev; cases ev
  | succ m =>
    simp only [whGo] at ev
    cases ec : evX gc cf c true s1 with
    | no => rw [ec] at ev; cases ev
    | ok tv s2 =>
      rw [ec] at ev
      cases tv with
      | bl d =>
        refine ⟨F1, G, θ1, s1, d, s2, R1, ec, fun H2 F2 θ2 R2 l2 p2 => ?_⟩
        cases d with
        | false =>
          cases ev
          rw [if_neg Bool.false_ne_true]
          exact k σ1 H2 F2 θ2 R2 (l1.trans l2) (p1.trans p2)
        | true =>
          rw [if_pos rfl]
          dsimp only at ev
          cases eb : exSs gc cf wf b s2 with
          | no => rw [eb] at ev; cases ev
          | ok f s3 =>
            rw [eb] at ev
            refine ⟨fun σ' H' => ∃ F3 θ3, Rel (MX D.cl X) F3 G θ3 s3 σ' H' ∧ FLe F F3 ∧ θ <+: θ3 ∧ whGo (evX gc cf c true) (exSs gc cf wf b) m s3 = .ok fl s', fun σ' H' ⟨F3, θ3, R3, l3, p3, e3⟩ => ⟨m, Nat.lt_succ_self m, F3, θ3, s3, R3, l3, p3, e3⟩, F2, G, θ2, s2, f, s3, R2, eb, ?_⟩
            have l12 := l1.trans l2
            have p12 := p1.trans p2
            cases f with
            | next => exact fun σ3 H3 F3 θ3 R3 l3 p3 => ⟨F3, θ3, R3, l12.trans l3, p12.trans p3, ev⟩
            | cont => exact fun σ3 H3 F3 θ3 R3 l3 p3 => ⟨F3, θ3, R3, l12.trans l3, p12.trans p3, ev⟩
            | brk => cases ev; exact fun σ3 H3 F3 θ3 R3 l3 p3 => k σ3 H3 F3 θ3 R3 (l12.trans l3) (p12.trans p3)
            | ret t => cases ev; exact fun v σ3 H3 F3 θ3 R3 l3 p3 r => k v σ3 H3 F3 θ3 R3 (l12.trans l3) (p12.trans p3) r
      | _ => cases ev
theorem sFor (C : Cxt D gc cf X sc) {k : Nat} {tg : Tg} {its : List Ex} {b : List Sm} {tge iter : Expr} {y : List Stmt} {pos : Pos} (hS : isSetE iter = false) (hT : chkT X.N sc tg tge = true) (hI : PI X tge iter (RI gc cf (MX D.cl X) k its)) (hb : PSs X y (RSs gc cf wf (MX D.cl X) b)) :
    PS X (.For tge iter y [] pos) (RS gc cf wf (MX D.cl X) (.forr k tg its b)) := by
  have hs : ∀ x, foldedSetIterable iter X.env x = pure x := fun x => by cases iter <;> first | rfl | (exact nomatch hS)
  refine ⟨fun pins s0 σ H D' I hh => ?_⟩
  obtain ⟨F, G, θ, s, fl, s', R, ev, kk⟩ := hh
  simp only [exS] at ev
  obtain ⟨vs, s1, e1, ev⟩ := Rs.bind_eq ev
  split at ev
  · rename_i hp
    split at ev
    · rename_i xs hi
      have hd : vs.map s1.deref = vs := by
        have : ∀ l : List Tr, l.all Tr.pure = true → l.map s1.deref = l := by
          intro l
          induction l with
          | nil => intro _; rfl
          | cons t l ih =>
            intro h
            rw [List.all_cons, Bool.and_eq_true] at h
            rw [List.map_cons, ih h.2]
            cases t <;> first | rfl | (exact nomatch h.1)
        exact this vs hp
      refine (ps_for C.passes C.calm hI (sT (cl := D.cl) C.nd C.calm C.loc tg tge hT) hb hs).run pins s0 σ H D' I ⟨F, G, θ, s, vs, s1, xs, R, e1, by rw [hd]; exact hp, by rw [hd]; exact hi, fun J H1 F1 θ1 R1 l1 p1 wk => ?_⟩
      refine for_it wk (fun i σ' H' => ∃ F' θ' s2, Rel (MX D.cl X) F' G θ' s2 σ' H' ∧ FLe F1 F' ∧ θ1 <+: θ' ∧ forGo tg (exSs gc cf wf b) (xs.drop i) s2 = .ok fl s') ?_ ?_ ?_ ?_
      · exact ⟨F1, θ1, s1, R1, FLe.refl _, List.prefix_refl _, ev⟩
      · rintro i σ' H' _ ⟨F', θ', s2, R2, l', p', _⟩
        exact ⟨l'.trans R2.m.fle, .inl hp⟩
      · rintro i x σ' H' H'' hlt ⟨F', θ', s2, R2, l', p', eg⟩ ⟨t, ht, hy⟩
        have ed : xs.drop i = t :: xs.drop (i + 1) := by
          obtain ⟨h1, h2⟩ := List.getElem?_eq_some_iff.mp ht
          rw [List.drop_eq_getElem_cons h1, h2]
        rw [ed] at eg
        simp only [forGo] at eg
        obtain ⟨F2, lF2, R3, rt⟩ : ∃ F2, FLe F' F2 ∧ Rel (MX D.cl X) F2 G θ' s2 σ' H'' ∧ Rp (MX D.cl X) F2 θ' t x := by
          rcases hy with ⟨rfl, rr⟩ | ⟨p, l, ws, np, rfl, rfl, rfl, rr, _⟩
          · exact ⟨F', FLe.refl _, R2, rr.mono l' p'⟩
          · have fp := R2.m.fle.none np
            exact ⟨_, FLe.upd1 fp, R2.newF np, .tup (SqT.of upd_same) (rr.mono (l'.trans (FLe.upd1 fp)) p')⟩
        cases ea : asg tg t s2.env with
        | none => rw [ea] at eg; cases eg
        | some env1 =>
          rw [ea] at eg
          dsimp only at eg
          refine ⟨F2, G, θ', s2.env, s2.mem, t, env1, R3, rt, ea, fun σ3 R4 _ => ?_⟩
          cases eb : exSs gc cf wf b ⟨env1, s2.mem⟩ with
          | no => rw [eb] at eg; cases eg
          | ok f s3 =>
            rw [eb] at eg
            refine ⟨F2, G, θ', ⟨env1, s2.mem⟩, f, s3, R4, eb, ?_⟩
            have lA := l'.trans lF2
            cases f with
            | next => exact fun σ5 H5 F5 θ5 R5 l5 p5 => ⟨F5, θ5, s3, R5, lA.trans l5, p'.trans p5, eg⟩
            | cont => exact fun σ5 H5 F5 θ5 R5 l5 p5 => ⟨F5, θ5, s3, R5, lA.trans l5, p'.trans p5, eg⟩
            | brk => cases eg; exact fun σ5 H5 F5 θ5 R5 l5 p5 => kk σ5 H5 F5 θ5 R5 (l1.trans (lA.trans l5)) (p1.trans (p'.trans p5))
            | ret t => cases eg; exact fun v σ5 H5 F5 θ5 R5 l5 p5 r => kk v σ5 H5 F5 θ5 R5 (l1.trans (lA.trans l5)) (p1.trans (p'.trans p5)) r
      · rintro σ' H' ⟨F', θ', s2, R2, l', p', eg⟩
        rw [List.drop_length] at eg
        simp only [forGo] at eg
        cases eg
        exact kk σ' H' F' θ' R2 (l1.trans l') (p1.trans p')
    · cases ev
  · cases ev
end
end Ev
/-! Soundness of statements: several names at once; the theorem. -/
namespace Ev
open PySem PySem.Spec L2
open PyProof.Rows hiding St
section
variable {D : Ds} {gc : Nat → Option Tr} {cf : CF} {wf : Nat} {X : Cx} {sc : Scope} {K : Mx} {F F' G H : Hp} {θ θ' : List Addr} {s : Sta} {σ : St}
/-- values for names; the own ones stand at addresses ps, guarded -/
inductive MOk (K : Mx) (F G : Hp) (θ : List Addr) : List (Nat × Nat) → List Tr → List V → List Addr → Prop
  | nil : MOk K F G θ [] [] [] []
  | val {i : Nat} {is : List (Nat × Nat)} {t : Tr} {ts : List Tr} {v : V} {vs : List V} {ps : List Addr} : Rp K F θ t v → MOk K F G θ is ts vs ps → MOk K F G θ ((i, 0) :: is) (t :: ts) (v :: vs) ps
  | own {i o : Nat} {is : List (Nat × Nat)} {t : Tr} {b : Ob} {ts : List Tr} {a : Addr} {ho : HO} {vs : List V} {ps : List Addr} : o ≠ 0 → ownOb o t = some b → G a = some ho → RpB K F θ a b ho → a ∉ ps → MOk K F G θ is ts vs ps → MOk K F G θ ((i, o) :: is) (t :: ts) (.ref a :: vs) (a :: ps)
theorem MOk.mono {G G' : Hp} (hF : FLe F F') (hθ : θ <+: θ') : ∀ {is : List (Nat × Nat)} {ts : List Tr} {vs : List V} {ps : List Addr}, (∀ a ∈ ps, G' a = G a) → MOk K F G θ is ts vs ps → MOk K F' G' θ' is ts vs ps
  | _, _, _, _, _, .nil => .nil
  | _, _, _, _, h, .val r m => .val (r.mono hF hθ) (m.mono hF hθ h)
  | _, _, _, _, h, .own n0 ob g r n m => .own n0 ob (by rw [h _ List.mem_cons_self]; exact g) (r.mono hF hθ) n (m.mono hF hθ fun b hb => h b (List.mem_cons_of_mem _ hb))
theorem MOk.len : ∀ {is : List (Nat × Nat)} {ts : List Tr} {vs : List V} {ps : List Addr}, MOk K F G θ is ts vs ps → vs.length = is.length
  | _, _, _, _, .nil => rfl
  | _, _, _, _, .val _ m => by rw [List.length_cons, List.length_cons, m.len]
  | _, _, _, _, .own _ _ _ _ _ m => by rw [List.length_cons, List.length_cons, m.len]
def remG (G : Hp) (a : Addr) : Hp := fun b => if b = a then none else G b
theorem remG_le {a : Addr} : FLe (remG G a) G := fun b o e => by
  unfold remG at e
  split at e
  · cases e
  · exact e
theorem remG_at {a : Addr} : remG G a a = none := by unfold remG; rw [if_pos rfl]
theorem remG_ne {a b : Addr} (h : b ≠ a) : remG G a b = G b := by unfold remG; rw [if_neg h]
def setAll : St → List (Nat × Nat) → List V → St
  | σ, (i, _) :: is, v :: vs => setAll (σ.set i (some v)) is vs
  | σ, _, _ => σ
theorem manyRel {m : List Ob} : ∀ (is : List (Nat × Nat)) (ts : List Tr) (vs : List V) (ps : List Addr) (env env' : List Slot) (σ : St) (G' : Hp), MOk K F G' θ is ts vs ps → manyGo is ts env = some env' → Rel K F G' θ ⟨env, m⟩ σ H →
    FLe G G' → (∀ a ∈ ps, G a = none) → Rel K F G θ ⟨env', m⟩ (setAll σ is vs) H
  | _, _, _, _, env, env', σ, G', .nil, e, R, l, _ => by
    simp only [manyGo] at e
    cases e
    exact R.weakG l
  | (i, 0) :: is, t :: ts, v :: vs, ps, env, env', σ, G', .val r mo, e, R, l, h => by
    simp only [manyGo] at e
    split at e
    · rename_i hi
      rw [if_pos trivial] at e
      exact manyRel is ts vs ps _ env' _ G' mo e (R.store r hi) l h
    · cases e
  | (i, o) :: is, t :: ts, .ref a :: vs, _ :: ps, env, env', σ, G', .own n0 ob g r n mo, e, R, l, h => by
    simp only [manyGo, if_neg n0, ob] at e
    split at e
    · rename_i hi
      have R1 : Rel K F (remG G' a) θ ⟨env, m⟩ σ H := R.weakG remG_le
      have R2 := R1.storeOwn (i := i) r (R.m.gle a _ g) (R.m.fg a _ g) remG_at (R.m.gth g) (fun j l' _ ej z => by
        obtain ⟨zs, _, _, q, _⟩ := R.ownAt ej z
        rw [g] at q
        cases q) hi
      refine manyRel is ts vs ps _ env' _ (remG G' a) (mo.mono (FLe.refl F) (List.prefix_refl _) fun b hb => remG_ne fun z => ?_) e R2 (fun b o eb => ?_) fun b hb => h b (List.mem_cons_of_mem _ hb)
      · subst z; exact n hb
      · have ne : b ≠ a := fun z => by
          subst z
          rw [h b List.mem_cons_self] at eb
          cases eb
        rw [remG_ne ne]
        exact l b o eb
    · cases e
def RM (gc : Nat → Option Tr) (cf : CF) (K : Mx) (is : List (Nat × Nat)) (es : List Ex) : TA := fun σ H Q => ∃ F G θ s ts s', Rel K F G θ s σ H ∧ evEs gc cf es s = .ok ts s' ∧ ts.all Tr.pure = true ∧
  ∀ vs H' F' G' θ' ps, Rel K F' G' θ' s' σ H' → FLe F F' → FLe G G' → θ <+: θ' → MOk K F' G' θ' is ts vs ps → (∀ a ∈ ps, G a = none) → Q vs H'
theorem sM (C : Cxt D gc cf X sc) : ∀ (is : List (Nat × Nat)) (es : List Ex) (xs : List Expr), dispOk is es = true → chks D X.N sc es xs = true → PA X xs (RM gc cf (MX D.cl X) is es)
  | [], [], xs, hd, h => by
    cases xs with
    | cons _ _ => exact nomatch h
    | nil =>
      refine ⟨fun p pins s0 σ H Q I hh => ?_⟩
      obtain ⟨F, G, θ, s, ts, s', R, ev, _, k⟩ := hh
      simp only [evEs] at ev
      cases ev
      exact pa_nil.run p pins s0 σ H Q I (k [] H F G θ [] R (FLe.refl F) (FLe.refl G) (List.prefix_refl _) .nil (fun _ z => nomatch z))
  | [], _ :: _, _, hd, _ => nomatch hd
  | _ :: _, [], _, hd, _ => by simp only [dispOk] at hd; cases hd
  | (i, o) :: is, e :: es, xs, hd, h => by
    cases xs with
    | nil => exact nomatch h
    | cons x xs =>
      simp only [chks] at h
      obtain ⟨h1, h2⟩ := and2 h
      obtain ⟨h1, h3⟩ := and2 h1
      simp only [dispOk] at hd
      obtain ⟨hd1, hd2⟩ := and2 hd
      have hst : isStar x = false := by simpa using h1
      have rest := sM C is es xs hd2 h2
      by_cases ho : o = 0
      · subst ho
        have p1 := (sX e X sc x C h3).pe
        refine ⟨fun p pins s0 σ H Q I hh => ?_⟩
        obtain ⟨F, G, θ, s, ts, s', R, ev, hp, k⟩ := hh
        simp only [evEs] at ev
        obtain ⟨t, s1, e1, ev⟩ := Rs.bind_eq ev
        obtain ⟨ts', s2, e2, ev⟩ := Rs.bind_eq ev
        cases ev
        rw [List.all_cons, Bool.and_eq_true] at hp
        exact (pa_cons p1 rest (star_cons hst)).run p pins s0 σ H Q I ⟨F, G, θ, s, t, s1, R, e1, fun v H1 F1 θ1 R1 l1 p1' r1 => ⟨F1, G, θ1, s1, ts', _, R1, e2, hp.2, fun vs H2 F2 G2 θ2 ps R2 l2 g2 p2' mo hps =>
          k (v :: vs) H2 F2 G2 θ2 ps R2 (l1.trans l2) g2 (p1'.trans p2') (.val ((r1.rp hp.1).mono l2 p2') mo) hps⟩⟩
      have finG : ∀ {tt : TE}, PE X x tt → (∀ {σ : St} {H : Hp} {Q : VK} {F G : Hp} {θ : List Addr} {s : Sta} {t : Tr} {s1 : Sta}, Rel (MX D.cl X) F G θ s σ H → evX gc cf e false s = .ok t s1 →
            (∀ p b hb H1 F1 θ1, ownOb o t = some b → H1 p = none → Rel (MX D.cl X) F1 G θ1 s1 σ H1 → FLe F F1 → θ <+: θ1 → RpB (MX D.cl X) F1 θ1 p b hb → Q (.ref p) (upd H1 p hb)) → tt σ H Q) → PA X (x :: xs) (RM gc cf (MX D.cl X) ((i, o) :: is) (e :: es)) := by
          intro tt pe hr
          refine ⟨fun p pins s0 σ H Q I hh => ?_⟩
          obtain ⟨F, G, θ, s, ts, s', R, ev, hp, k⟩ := hh
          simp only [evEs] at ev
          obtain ⟨t, s1, e1, ev⟩ := Rs.bind_eq ev
          obtain ⟨ts', s2, e2, ev⟩ := Rs.bind_eq ev
          cases ev
          rw [List.all_cons, Bool.and_eq_true] at hp
          refine (pa_cons pe rest (star_cons hst)).run p pins s0 σ H Q I (hr R e1 fun a b zs H1 F1 θ1 ob na R1 l1 p1' r => ?_)
          have ga : G a = none := R1.m.gle.none na
          refine ⟨F1, upd G a zs, θ1, s1, ts', _, R1.pend na, e2, hp.2, fun vs H2 F2 G2 θ2 ps R2 l2 g2 p2' mo hps => ?_⟩
          have nps : a ∉ ps := fun z => by have := hps a z; rw [upd_same] at this; cases this
          refine k (.ref a :: vs) H2 F2 G2 θ2 (a :: ps) R2 (l1.trans l2) (fun b o eb => g2 b o (by rw [upd_ne (ne_of_none eb ga)]; exact eb)) (p1'.trans p2') (.own ho ob (g2 a _ upd_same) (r.mono l2 p2') nps mo) fun b hb => ?_
          rcases List.mem_cons.mp hb with rfl | hb
          · exact ga
          · have := hps b hb
            have ne : b ≠ a := fun z => nps (z ▸ hb)
            rwa [upd_ne ne] at this
      by_cases ho1 : o = 1
      · subst ho1
        have hd1 : isDisp e = true := by
          simp at hd1
          exact hd1
        have fin : ∀ {t : TE}, PE X x t → (∀ {σ : St} {H : Hp} {Q : VK} {F G : Hp} {θ : List Addr} {s : Sta} {l : List Tr} {s1 : Sta}, Rel (MX D.cl X) F G θ s σ H → evX gc cf e false s = .ok (.lst l) s1 →
            (∀ p xs H1 F1 θ1, H1 p = none → Rel (MX D.cl X) F1 G θ1 s1 σ H1 → FLe F F1 → θ <+: θ1 → Rps (MX D.cl X) F1 θ1 l xs → Q (.ref p) (upd H1 p (.lst xs))) → t σ H Q) →
            (∀ {s : Sta} {t : Tr} {s1 : Sta}, evX gc cf e false s = .ok t s1 → ∃ l, t = .lst l) → PA X (x :: xs) (RM gc cf (MX D.cl X) ((i, 1) :: is) (e :: es)) := by
          intro tt pe hr hl
          refine finG pe fun {σ H Q F G θ s t s1} R e1 k => ?_
          obtain ⟨l, rfl⟩ := hl e1
          exact hr R e1 fun p xs H1 F1 θ1 np R1 l1 p1 r => k p (.lst l) (.lst xs) H1 F1 θ1 rfl np R1 l1 p1 ⟨xs, rfl, r⟩
        cases e with
        | lst es0 =>
          simp only [chk] at h3
          split at h3
          · have pa := sEs es0 X sc _ C h3
            refine fin (pe_lst pa) (fun {σ H Q F G θ s l s1} R ev k => ?_) (fun {s t s1} ev => ?_)
            · simp only [evX, fin] at ev
              obtain ⟨ts, s2, e1, ev⟩ := Rs.bind_eq ev
              split at ev
              · rename_i hc
                obtain ⟨q1, q2⟩ := all_pure hc
                cases ev
                refine ⟨F, G, θ, s, _, _, R, e1, fun vs H1 F1 θ1 R1 l1 p1 r1 => ?_⟩
                have r := r1.rps q1
                exact ⟨by rw [r.length]; exact q2, fun p np => k p vs H1 F1 θ1 np R1 l1 p1 r⟩
              · cases ev
            · simp only [evX, fin] at ev
              obtain ⟨ts, s2, e1, ev⟩ := Rs.bind_eq ev
              split at ev
              · cases ev; exact ⟨_, rfl⟩
              · cases ev
          · cases h3
        | bi b es0 =>
          cases b <;> first | (exact (Bool.false_ne_true hd1).elim) | skip
          simp only [chk] at h3
          split at h3
          · rename_i y p1 xs1 p2 hdum
            obtain ⟨h4, h5⟩ := and2 h3
            obtain ⟨e1', g1, m1⟩ := blB_ok C h4
            subst e1'
            have pa := sEs es0 X sc _ C h5
            cases es0 with
            | nil =>
              refine ⟨fun p pins s0 σ H Q I hh => ?_⟩
              obtain ⟨F, G, θ, s, ts, s', R, ev, hp, k⟩ := hh
              simp only [evEs, evX, fin] at ev
              obtain ⟨t, s1, e1, ev⟩ := Rs.bind_eq ev
              simp only [Rs.bind, List.map_nil, List.all_nil, if_true, biT_nil, Rs.of] at e1
              cases e1
            | cons e0 es1 =>
              cases xs1 with
              | nil => exact nomatch h5
              | cons z zs =>
                simp only [chks] at h5
                obtain ⟨h6, h7⟩ := and2 h5
                obtain ⟨h6, h8⟩ := and2 h6
                have lo : ∀ {ts : List Tr} {t : Tr}, biT .listOf ts = some t → ∃ x l, ts = [x] ∧ seqT x = some l ∧ t = .lst l := by
                  intro ts t h
                  unfold biT at h
                  split at h
                  all_goals first
                    | (cases h; done)
                    | contradiction
                    | (cases h; exact ⟨_, _, rfl, rfl, rfl⟩)
                refine fin (pe_callTy (T := "list") call_list_of g1 m1 (by decide +kernel) pa (by decide) (by decide) (star_cons (by simpa using h6)) (chks_plain h7)) (fun {σ H Q F G θ s l s1} R ev k => ?_) (fun {s t s1} ev => ?_)
                · simp only [evX, fin] at ev
                  obtain ⟨ts, s2, e1, ev⟩ := Rs.bind_eq ev
                  split at ev
                  · rename_i hpp
                    obtain ⟨e2, rfl⟩ := Rs.of_eq ev
                    obtain ⟨x0, l0, e3, e4, e5⟩ := lo e2
                    cases e5
                    refine ⟨F, G, θ, s, ts, _, R, e1, fun vs H1 F1 θ1 R1 l1 p1 r1 => ?_⟩
                    have rr := R1.reads r1 hpp
                    rw [e3] at rr
                    cases rr with
                    | cons q1 q2 =>
                      cases q2
                      obtain ⟨a, ws, rfl, q, r⟩ := seqH R1.m.fle e4 q1
                      exact ⟨a, ws, rfl, q, fun p np => k p ws H1 F1 θ1 np R1 l1 p1 r⟩
                  · cases ev
                · simp only [evX, fin] at ev
                  obtain ⟨ts, s2, e1, ev⟩ := Rs.bind_eq ev
                  split at ev
                  · obtain ⟨e2, rfl⟩ := Rs.of_eq ev
                    obtain ⟨x0, l0, e3, e4, e5⟩ := lo e2
                    exact ⟨l0, e5⟩
                  · cases ev
          · cases h3
        | _ => exact (Bool.false_ne_true hd1).elim
      have hd2' : (o = 2 ∨ o = 3) ∧ isDsp0 e = true := by
        simp [ho, ho1] at hd1
        exact hd1
      obtain ⟨hd3, hd4⟩ := hd2'
      have he : e = .dsp [] := by
        cases e with
        | dsp es => cases es with
          | nil => rfl
          | cons _ _ => cases hd4
        | _ => cases hd4
      subst he
      simp only [chk] at h3
      split at h3
      · rename_i ks vs pos hx9
        have hc := (and2 h3).1
        have h0 : ks = [] ∧ vs = [] := by
          simp only [chkPs] at hc
          split at hc
          · exact ⟨rfl, rfl⟩
          · cases hc
        obtain ⟨rfl, rfl⟩ := h0
        have evd : ∀ {s : Sta} {t : Tr} {s1 : Sta}, evX gc cf (.dsp []) false s = .ok t s1 → t = .dk [] [] ∧ s = s1 := by
          intro s t s1 e1
          simp [evX, fin, evEs, Rs.bind, dspT] at e1
          exact ⟨e1.1.symm, e1.2⟩
        rcases hd3 with rfl | rfl
        · refine finG pe_dnewK fun {σ H Q F G θ s t s1} R e1 k p np => ?_
          obtain ⟨rfl, rfl⟩ := evd e1
          exact k p (.dk [] []) (.dK []) H F θ rfl np R (FLe.refl F) (List.prefix_refl _) ⟨[], rfl, rfl, .nil⟩
        · refine finG pe_dnewT' fun {σ H Q F G θ s t s1} R e1 k p np => ?_
          obtain ⟨rfl, rfl⟩ := evd e1
          exact k p (.dt [] []) (dtO X.prog X.w p []) H F θ rfl np R (FLe.refl F) (List.prefix_refl _) ⟨[], rfl, rfl, .nil, fun p hp => by cases hp⟩
      · cases h3
/-! names as targets -/
def chkN (N : List Str) (sc : Scope) : List (Nat × Nat) → List Expr → Bool
  | [], ts => match ts with
    | [] => true
    | _ => false
  | (i, _) :: is, ts => match ts with
    | .Name x _ :: ts => decide (N[i]? = some x) && locB sc x && chkN N sc is ts
    | _ => false
theorem sNs (C : Cxt D gc cf X sc) : ∀ (is : List (Nat × Nat)) (ts : List Expr), chkN X.N sc is ts = true → PGs X ts (fun vs σ H Q => vs.length = is.length ∧ Q (setAll σ is vs) H) ∧ (assignEach ts X.env).length = is.length ∧ (assignEach ts X.env).findIdx? (·.1) = none
  | [], ts, h => by
    cases ts with
    | cons _ _ => exact nomatch h
    | nil =>
      refine ⟨⟨fun pins s0 σ H vs us Q I r q => ?_⟩, rfl, rfl⟩
      obtain ⟨h1, h2⟩ := q
      have : vs = [] := List.length_eq_zero_iff.mp h1
      subst this
      exact pgs_nil.run pins s0 σ H [] us Q I r ⟨rfl, h2⟩
  | (i, o) :: is, ts, h => by
    cases ts with
    | nil => exact nomatch h
    | cons t ts =>
      simp only [chkN] at h
      split at h
      · rename_i x px ts' heq
        cases heq
        obtain ⟨h1, h2⟩ := and2 h
        obtain ⟨h1, h3⟩ := and2 h1
        obtain ⟨hl, hf⟩ := C.loc x h3
        obtain ⟨g1, g2, g3⟩ := sNs C is _ h2
        refine ⟨⟨fun pins s0 σ H vs us Q I r q => ?_⟩, ?_, ?_⟩
        · obtain ⟨q1, q2⟩ := q
          cases vs with
          | nil => cases q1
          | cons v vs =>
            exact (pgs_cons (pg_name (i := i) C.nd (of_decide_eq_true h1) hl hf) g1 (by rfl)).run pins s0 σ H (v :: vs) us Q I r ⟨v, vs, rfl, by simpa using q1, q2⟩
        · show ((false, _) :: assignEach _ X.env).length = _
          rw [List.length_cons, g2, List.length_cons]
        · show ((false, _) :: assignEach _ X.env).findIdx? _ = none
          rw [List.findIdx?_cons]
          simp [g3]
      · cases h
theorem len3 {α : Type} {l : List α} (h : l.length = 3) : ∃ a b c, l = [a, b, c] := by
  match l, h with
  | [a, b, c], _ => exact ⟨a, b, c, rfl⟩
theorem chkN_len {N : List Str} : ∀ {is : List (Nat × Nat)} {ts : List Expr}, chkN N sc is ts = true → ts.length = is.length
  | [], ts, h => by
    cases ts with
    | cons _ _ => exact nomatch h
    | nil => rfl
  | (i, o) :: is, ts, h => by
    cases ts with
    | nil => exact nomatch h
    | cons t ts =>
      simp only [chkN] at h
      split at h
      · rename_i heq
        cases heq
        rw [List.length_cons, List.length_cons, chkN_len (and2 h).2]
      · cases h
theorem swQ_len {ts vs : List Expr} {ns : List Str} (h : swQ sc ts vs = some (some ns)) : (ts.length = 2 ∧ vs.length = 2) ∨ (ts.length = 3 ∧ vs.length = 3) := by
  unfold swQ at h
  split at h
  · cases h
  · rename_i c
    simp at c
    omega
theorem sMany (C : Cxt D gc cf X sc) (hsc : X.env.scope = sc) (hfun : sc.kind = .function) {is : List (Nat × Nat)} {es : List Ex} {ts vs : List Expr} {k1 k2 : Nat} {p1 p2 pos : Pos} (hz : is.length ≤ sizeLine) (hn : chkN X.N sc is ts = true) (hd : dispOk is es = true) (hc : chks D X.N sc es vs = true)
    (hsw : (match swQ sc ts vs with
      | none => false
      | some none => true
      | some (some ns) => decide (ns = is.map fun p => X.N.getD p.1 "") && (is.map (·.1)).all (fun i => sc.names.lookup (X.N.getD i "") == some .local) && decide ((is.map (·.1)).Nodup)) = true) : PS X (.Assign [.Tuple ts k1 p1] (.Tuple vs k2 p2) pos) (RS gc cf wf (MX D.cl X) (.many is es)) := by
  have pm := sM C is es vs hd hc
  obtain ⟨g1, g2, g3⟩ := sNs C is ts hn
  have rd : ∀ {σ : St} {H : Hp} {D' : Ends}, RS gc cf wf (MX D.cl X) (.many is es) D' σ H → RM gc cf (MX D.cl X) is es σ H (fun ws H1 => ws.length = is.length ∧ ws.length ≤ sizeLine ∧ D'.nx (setAll σ is ws) H1 ∧ ∀ p xs, H1 p = none → D'.nx (setAll σ is ws) (upd H1 p (.tup xs))) := by
    intro σ H D' hh
    obtain ⟨F, G, θ, s, fl, s', R, ev, k⟩ := hh
    simp only [exS] at ev
    obtain ⟨tt, s1, e1, ev⟩ := Rs.bind_eq ev
    split at ev
    · rename_i hp
      split at ev
      · rename_i env em
        cases ev
        refine ⟨F, G, θ, s, tt, s1, R, e1, hp, fun ws H' F' G' θ' ps R' l' lg p' mo hps => ⟨mo.len, ?_, ?_, fun p xs np => ?_⟩⟩
        · rw [mo.len]; exact hz
        · exact k _ _ F' θ' (manyRel is tt ws ps _ _ _ G' mo em R' lg hps) l' p'
        · exact k _ _ F' θ' (manyRel is tt ws ps _ _ _ G' mo em (R'.junk np) lg hps) l' p'
      · cases ev
    · cases ev
  have hk : X.env.scope.kind = .function := by rw [hsc]; exact hfun
  split at hsw
  · cases hsw
  · rename_i hq
    have w1 : swappedStores [.Tuple ts k1 p1] (.Tuple vs k2 p2) X.env = pure none := swQ_ok hk (by rw [hsc]; exact hq)
    refine ⟨fun pins s0 σ H D' I hh => ?_⟩
    refine (ps_asg (pe_tup pm) (pg_tup (n := is.length) C.calm g1 g2 g3) (by rfl) w1 (by rfl)).run pins s0 σ H D' I ?_
    obtain ⟨F, G, θ, s, tt, s', R, e, hp, k⟩ := rd hh
    refine ⟨F, G, θ, s, tt, s', R, e, hp, fun ws H' F' G' θ' ps R' l' lg p' mo hps => ?_⟩
    obtain ⟨q1, q2, _, q3⟩ := k ws H' F' G' θ' ps R' l' lg p' mo hps
    exact ⟨q2, fun p np => ⟨p, ws, rfl, SqT.of upd_same, q1, q1, q3 p ws np⟩⟩
  · rename_i ns hq
    obtain ⟨h1, h2⟩ := and2 hsw
    obtain ⟨h1, h3⟩ := and2 h1
    have hns := of_decide_eq_true h1
    have hnd := of_decide_eq_true h2
    have w1 : swappedStores [.Tuple ts k1 p1] (.Tuple vs k2 p2) X.env = pure (some ns) := swQ_ok hk (by rw [hsc]; exact hq)
    have hl := swQ_len hq
    have hl2 := chkN_len hn
    rcases hl with ⟨l2, lv⟩ | ⟨l3, lv⟩
    · obtain ⟨t1, t2, rfl⟩ := len2 l2
      obtain ⟨⟨i, o1⟩, ⟨j, o2⟩, rfl⟩ := len2 (hl2.symm.trans l2)
      obtain ⟨v1, v2, rfl⟩ := len2 lv
      simp only [chkN] at hn
      split at hn
      · rename_i x px _ heq
        cases heq
        obtain ⟨hA, hB⟩ := and2 hn
        obtain ⟨hA, _⟩ := and2 hA
        split at hB
        · rename_i y py _ heq
          cases heq
          obtain ⟨hC, _⟩ := and2 hB
          obtain ⟨hC, _⟩ := and2 hC
          have ni := of_decide_eq_true hA
          have nj := of_decide_eq_true hC
          simp only [List.map_cons, List.map_nil, List.all_cons, List.all_nil, Bool.and_true] at h3 hns hnd
          obtain ⟨h4, h5⟩ := and2 h3
          have ei : X.N.getD i "" = x := by rw [List.getD_eq_getElem?_getD, ni]; rfl
          have ej : X.N.getD j "" = y := by rw [List.getD_eq_getElem?_getD, nj]; rfl
          rw [ei, ej] at hns
          rw [ei] at h4
          rw [ej] at h5
          subst hns
          have hij : i ≠ j := fun z => by subst z; simp at hnd
          refine ⟨fun pins s0 σ H D' I hh => ?_⟩
          refine (ps_par C.calm C.nd ni nj hij (by rw [hsc]; exact eq_of_beq h4) (by rw [hsc]; exact eq_of_beq h5) pm w1 (by rfl)).run pins s0 σ H D' I ?_
          obtain ⟨F, G, θ, s, tt, s', R, e, hp, k⟩ := rd hh
          refine ⟨F, G, θ, s, tt, s', R, e, hp, fun ws H' F' G' θ' ps R' l' lg p' mo hps => ?_⟩
          obtain ⟨q1, q2, q4, q3⟩ := k ws H' F' G' θ' ps R' l' lg p' mo hps
          obtain ⟨w1, w2, rfl⟩ := len2 q1
          exact ⟨w1, w2, rfl, q4⟩
        · cases hB
      · cases hn
    · obtain ⟨t1, t2, t3, rfl⟩ := len3 l3
      obtain ⟨⟨i, o1⟩, ⟨j, o2⟩, ⟨l, o3⟩, rfl⟩ := len3 (hl2.symm.trans l3)
      obtain ⟨v1, v2, v3, rfl⟩ := len3 lv
      simp only [chkN] at hn
      split at hn
      · rename_i x px _ heq
        cases heq
        obtain ⟨hA, hB⟩ := and2 hn
        obtain ⟨hA, _⟩ := and2 hA
        split at hB
        · rename_i y py _ heq
          cases heq
          obtain ⟨hC, hB⟩ := and2 hB
          obtain ⟨hC, _⟩ := and2 hC
          split at hB
          · rename_i z pz _ heq
            cases heq
            obtain ⟨hE, _⟩ := and2 hB
            obtain ⟨hE, _⟩ := and2 hE
            have ni := of_decide_eq_true hA
            have nj := of_decide_eq_true hC
            have nl := of_decide_eq_true hE
            simp only [List.map_cons, List.map_nil, List.all_cons, List.all_nil, Bool.and_true] at h3 hns hnd
            obtain ⟨h4, h5⟩ := and2 h3
            obtain ⟨h5, h6⟩ := and2 h5
            have ei : X.N.getD i "" = x := by rw [List.getD_eq_getElem?_getD, ni]; rfl
            have ej : X.N.getD j "" = y := by rw [List.getD_eq_getElem?_getD, nj]; rfl
            have el : X.N.getD l "" = z := by rw [List.getD_eq_getElem?_getD, nl]; rfl
            rw [ei, ej, el] at hns
            rw [ei] at h4
            rw [ej] at h5
            rw [el] at h6
            subst hns
            have hij : i ≠ j := fun z => by subst z; simp at hnd
            have hil : i ≠ l := fun z => by subst z; simp at hnd
            have hjl : j ≠ l := fun z => by subst z; simp at hnd
            refine ⟨fun pins s0 σ H D' I hh => ?_⟩
            refine (ps_par3 C.calm C.nd ni nj nl hij hil hjl (by rw [hsc]; exact eq_of_beq h4) (by rw [hsc]; exact eq_of_beq h5) (by rw [hsc]; exact eq_of_beq h6) pm w1 (by rfl)).run pins s0 σ H D' I ?_
            obtain ⟨F, G, θ, s, tt, s', R, e, hp, k⟩ := rd hh
            refine ⟨F, G, θ, s, tt, s', R, e, hp, fun ws H' F' G' θ' ps R' l' lg p' mo hps => ?_⟩
            obtain ⟨q1, q2, q4, q3⟩ := k ws H' F' G' θ' ps R' l' lg p' mo hps
            obtain ⟨w1, w2, w3, rfl⟩ := len3 q1
            exact ⟨w1, w2, w3, rfl, q4⟩
          · cases hB
        · cases hB
      · cases hn
end
end Ev
/-! Soundness of statements: the checker, the theorem; defs and calls. -/
namespace Ev
open PySem PySem.Spec L2
open PyProof.Rows hiding St
def swOk (sc : Scope) (t v : Expr) : Bool := !isTupE v || (match t, v with
  | .Tuple ts _ _, .Tuple vs _ _ => (match swQ sc ts vs with
    | some none => true
    | _ => false)
  | _, _ => false)
theorem swOk_ok {sc : Scope} {env : Env} {t v : Expr} (h : swOk sc t v = true) (hk : env.scope.kind = .function) (hs : env.scope = sc) : ∀ es kk p, t = .Tuple es kk p → swappedStores [.Tuple es kk p] v env = pure none := by
  intro es kk p e
  subst e
  unfold swOk at h
  cases hv : isTupE v with
  | false => cases v <;> first | rfl | (exact nomatch hv)
  | true =>
    rw [hv] at h
    cases v <;> first | (cases hv; done) | skip
    simp only [Bool.not_true, Bool.false_or] at h
    split at h
    · rename_i hq
      exact swQ_ok hk (by rw [hs]; exact hq)
    · cases h
mutual
def chkS (D : Ds) (N : List Str) (sc : Scope) : Sm → Stmt → Bool
  | .set i e, st => match st with
    | .Assign [.Name x px] v pos => decide (N[i]? = some x) && locB sc x && chk D N sc e v && (match v with
      | .ListComp _ _ scope p => !(sc.names.lookup x == some .local && px.line == p.line && !(scope.names.any fun (n, k) => n == x && (k == .local || k == .cell))) || sc.names.lookup x == some .local
      | v => !isCompE v)
    | _ => false
  | .own i es, st => match st with
    | .Assign [.Name x _] (.List xs _) _ => decide (N[i]? = some x) && locB sc x && chks D N sc es xs
    | _ => false
  | .ownOf i e, st => match st with
    | .Assign [.Name x _] (.Call (.Name y _) [z] [] _) _ => decide (N[i]? = some x) && locB sc x && blB D sc y "list" && !isStar z && chk D N sc e z
    | _ => false
  | .many is es, st => match st with
    | .Assign [.Tuple ts _ _] (.Tuple vs _ _) _ => decide (is.length ≤ sizeLine) && chkN N sc is ts && dispOk is es && chks D N sc es vs && (match swQ sc ts vs with
      | none => false
      | some none => true
      | some (some ns) => decide (ns = is.map fun p => N.getD p.1 "") && (is.map (·.1)).all (fun i => sc.names.lookup (N.getD i "") == some .local) && decide ((is.map (·.1)).Nodup))
    | _ => false
  | .tgt tg e, st => match st with
    | .Assign [t] v _ => chkT N sc tg t && isTp tg && chk D N sc e v && swOk sc t v
    | _ => false
  | .aug i o e, st => match st with
    | .AugAssign (.Name x _) op v _ => decide (op = o.py) && decide (o.py = .Add ∨ o.py = .Sub) && decide (N[i]? = some x) && locB sc x && chk D N sc e v
    | _ => false
  | .put o k v, st => match st with
    | .Assign [.Subscript a b _] w _ => !isSlice b && chk D N sc o a && chk D N sc k b && chk D N sc v w
    | _ => false
  | .app i e, st => match st with
    | .Expr (.Call (.Attribute (.Name x _) m ap) [z] [] cp) _ => decide (m = ("append" : Str)) && decide (N[i]? = some x) && visB sc x && okN x && (ap.endLine == cp.line) && !isStar z && chk D N sc e z
    | _ => false
  | .ext i e, st => match st with
    | .Expr (.Call (.Attribute (.Name x _) m ap) [z] [] cp) _ => decide (m = ("extend" : Str)) && decide (N[i]? = some x) && visB sc x && okN x && (ap.endLine == cp.line) && !isStar z && chk D N sc e z
    | _ => false
  | .ex e, st => match st with
    | .Expr v _ => !isCompE v && chk D N sc e v
    | _ => false
  | .ret e, st => match st with
    | .Return (some v) _ => chk D N sc e v
    | _ => false
  | .ownE i e, st => match e with
    | .sl a lo hi => (match st with
      | .Assign [.Name x _] (.Subscript y (.Slice l h none _) _) _ => decide (N[i]? = some x) && locB sc x && chk D N sc a y && (match l with
        | none => isNul lo
        | some l => !isNul lo && chk D N sc lo l) && (match h with
        | none => isNul hi
        | some h => !isNul hi && chk D N sc hi h)
      | _ => false)
    | .bin o a b => (match o, st with
      | .add, .Assign [.Name x _] (.BinOp y .Add z _) _ => decide (N[i]? = some x) && locB sc x && chk D N sc a y && chk D N sc b z
      | _, _ => false)
    | _ => false
  | .ownD i t, st => match st with
    | .Assign [.Name x _] (.Dict [] [] _) _ => decide (N[i]? = some x) && locB sc x
    | _ => false
  | .dput i k v, st => match st with
    | .Assign [.Subscript (.Name x _) b _] w _ => decide (N[i]? = some x) && visB sc x && okN x && !isSlice b && chk D N sc k b && chk D N sc v w
    | _ => false
  | .setAt i k v, st => match st with
    | .Assign [.Subscript (.Name x _) b _] w _ => decide (N[i]? = some x) && visB sc x && okN x && !isSlice b && chk D N sc k b && chk D N sc v w
    | _ => false
  | .fset o f e, st => match st with
    | .Assign [.Attribute a g _] w _ => decide (f = g) && decide (f ∈ D.fl) && !isCompE w && chk D N sc o a && chk D N sc e w
    | _ => false
  | .retN, st => match st with
    | .Return none _ => true
    | _ => false
  | .ite c a b, st => match st with
    | .If t x y _ => chk D N sc c t && chkSs D N sc a x && chkSs D N sc b y
    | _ => false
  | .forr k tg its b, st => match st with
    | .For tge iter y [] _ => !isSetE iter && chkT N sc tg tge && chkIt D N sc k tg its iter && chkSs D N sc b y
    | _ => false
  | .whl c b, st => match st with
    | .While t y [] _ => chk D N sc c t && chkSs D N sc b y
    | _ => false
  | .brk, st => match st with
    | .Break _ => true
    | _ => false
  | .cont, st => match st with
    | .Continue _ => true
    | _ => false
  | .pass, st => match st with
    | .Pass _ => true
    | _ => false
  | .bad, _ => true
def chkSs (D : Ds) (N : List Str) (sc : Scope) : List Sm → List Stmt → Bool
  | [], ss => match ss with
    | [] => true
    | _ => false
  | a :: b, ss => match ss with
    | x :: y => chkS D N sc a x && chkSs D N sc b y
    | _ => false
end
section
variable {D : Ds} {gc : Nat → Option Tr} {cf : CF} {wf : Nat} {X : Cx} {sc : Scope}
/-- an assignment of a comprehension -/
theorem sSetComp' (C : Cxt D gc cf X sc) (hsc : X.env.scope = sc) (hfun : sc.kind = .function) {i : Nat} {e : Ex} {x : Str} {px pos p : Pos} {elt : Expr} {gs : List Comprehension} {scope : Scope} (hN : X.N[i]? = some x) (hl : locB sc x = true) (he : chk D X.N sc e (.ListComp elt gs scope p) = true)
    (hx : (!(sc.names.lookup x == some .local && px.line == p.line && !(scope.names.any fun (n, k) => n == x && (k == .local || k == .cell))) || sc.names.lookup x == some .local) = true) : PS X (.Assign [.Name x px] (.ListComp elt gs scope p) pos) (RS gc cf wf (MX D.cl X) (.set i e)) := by
  have hsn := sX e X sc _ C he
  have hbk : X.env.blockKind = .function := by unfold Env.blockKind; rw [hsc, hfun]; rfl
  have hkd : ∀ y, X.env.kindOf y = sc.names.lookup y := fun y => by rw [← hsc]; rfl
  have hsw : swapsWith (.ListComp elt gs scope p) (some (.Name x px)) pos.line X.env = pure (sc.names.lookup x == some .local && px.line == p.line && !(scope.names.any fun (n, k) => n == x && (k == .local || k == .cell))) := by
    unfold swapsWith
    simp only [hbk, hkd, Expr.pos]
    rfl
  cases hb : (sc.names.lookup x == some .local && px.line == p.line && !(scope.names.any fun (n, k) => n == x && (k == .local || k == .cell))) with
  | false =>
    obtain ⟨h1, h2⟩ := C.loc x hl
    rw [hb] at hsw
    refine ⟨fun pins s0 σ H D' I hh => ?_⟩
    obtain ⟨F, G, θ, s, fl, s', R, ev, k⟩ := hh
    simp only [exS] at ev
    obtain ⟨t, s1, e1, ev⟩ := Rs.bind_eq ev
    split at ev
    · rename_i hc
      obtain ⟨h3, h4⟩ := and2 hc
      cases ev
      exact (ps_set C.nd hN h1 hsn.pe hsw h2).run pins s0 σ H D' I ⟨F, G, θ, s, t, s1, R, e1, fun v H1 F1 θ1 R1 l1 p1 r1 => k _ H1 F1 θ1 (R1.store (r1.rp h3) (of_decide_eq_true h4)) l1 p1⟩
    · cases ev
  | true =>
    rw [hb] at hsw
    have hloc : X.env.scope.names.lookup x = some .local := by
      rw [hsc]
      have := (and2 (and2 hb).1).1
      exact eq_of_beq this
    by_cases hbad : e = .bad
    · subst hbad
      exact ⟨fun pins s0 σ H D' I hh => by obtain ⟨F, G, θ, s, fl, s', R, ev, k⟩ := hh; simp only [exS, evX, Rs.bind] at ev; cases ev⟩
    cases e <;> try (first | exact absurd rfl hbad | (simp [chk] at he; done) | (simp only [chk] at he; split at he <;> cases he))
    rename_i k elt' tg its cond own
    simp only [chk] at he
    split at he
    · rename_i e' tg' iter ifs scope' pos' heq
      cases heq
      obtain ⟨h1, hit⟩ := and2 he
      obtain ⟨h1, hcond⟩ := and2 h1
      obtain ⟨h1, htg⟩ := and2 h1
      obtain ⟨h1, helt⟩ := and2 h1
      obtain ⟨h1, hblk⟩ := and2 h1
      obtain ⟨hset, hin⟩ := and2 h1
      have hI : PI X tg' iter (RI gc cf (MX D.cl X) k its) := sI C (fun e x he hx => by subst he; exact (sX e X sc x C hx).pe) (fun xs hxs => sEs its X sc xs C hxs) (.inr ⟨_, _, htg⟩) hit
      have hE : ∀ X' : Cx, Cxt D gc cf X' scope → X'.N = X.N → MX D.cl X' = MX D.cl X → Snd D gc cf X' elt' elt := fun X' C' hN _ => sX elt' X' scope elt C' (by rw [hN]; exact helt)
      cases ifs with
      | nil =>
        obtain ⟨t, ht, hr⟩ := sSetComp (tt := tYes) C hI hblk (by simpa using hset) hin hE htg (fun _ _ _ _ => pts_nil) (fun {σ H Q F G θ s b s'} R e k => by
          rw [if_pos hcond] at e
          cases e
          exact k H F θ R (FLe.refl F) (List.prefix_refl _)) hN hloc hsw
        exact sSetC C ht hr
      | cons c r =>
        cases r with
        | cons _ _ => cases hcond
        | nil =>
          obtain ⟨h2, h3⟩ := and2 hcond
          obtain ⟨t, ht, hr⟩ := sSetComp (tt := RT gc cf (MX D.cl X) cond) C hI hblk (by simpa using hset) hin hE htg (fun X' C' hN hK => by
              have z := pts_one (sX cond X' scope c C' (by rw [hN]; exact h3)).pt
              rw [hK] at z
              exact z) (fun {σ H Q F G θ s b s'} R e k => by
            rw [if_neg (by simpa using h2)] at e
            exact ⟨F, G, θ, s, b, s', R, e, k⟩) hN hloc hsw
          exact sSetC C ht hr
    · cases he
mutual
theorem sS (C : Cxt D gc cf X sc) (hsc : X.env.scope = sc) (hfun : sc.kind = .function) : ∀ (a : Sm) (st : Stmt), chkS D X.N sc a st = true → PS X st (RS gc cf wf (MX D.cl X) a)
  | .set i e, st, h => by
    simp only [chkS] at h
    split at h
    · rename_i x px v pos
      obtain ⟨h1, h4⟩ := and2 h
      obtain ⟨h1, h3⟩ := and2 h1
      obtain ⟨h1, h2⟩ := and2 h1
      have hN := of_decide_eq_true h1
      cases v <;> first
        | exact sSetComp' C hsc hfun hN h2 h3 h4
        | exact sSet C hN h2 (sX e X sc _ C h3).pe (by simpa using h4)
    · cases h
  | .own i es, st, h => by
    simp only [chkS] at h
    split at h
    · obtain ⟨h1, h3⟩ := and2 h
      obtain ⟨h1, h2⟩ := and2 h1
      exact sOwn C (of_decide_eq_true h1) h2 (sEs es X sc _ C h3)
    · cases h
  | .ownOf i e, st, h => by
    simp only [chkS] at h
    split at h
    · obtain ⟨h1, h5⟩ := and2 h
      obtain ⟨h1, h4⟩ := and2 h1
      obtain ⟨h1, h3⟩ := and2 h1
      obtain ⟨h1, h2⟩ := and2 h1
      have hN := of_decide_eq_true h1
      obtain ⟨rfl, g1, m1⟩ := blB_ok C h3
      exact sOwnOf C hN h2 g1 m1 (sX e X sc _ C h5).pe (by simpa using h4)
    · cases h
  | .many is es, st, h => by
    simp only [chkS] at h
    split at h
    · obtain ⟨h1, h5⟩ := and2 h
      obtain ⟨h1, h4⟩ := and2 h1
      obtain ⟨h1, h3⟩ := and2 h1
      obtain ⟨h1, h2⟩ := and2 h1
      exact sMany C hsc hfun (of_decide_eq_true h1) h2 h3 h4 h5
    · cases h
  | .tgt tg e, st, h => by
    simp only [chkS] at h
    split at h
    · obtain ⟨h1, h4⟩ := and2 h
      obtain ⟨h1, h3⟩ := and2 h1
      obtain ⟨h1, h2⟩ := and2 h1
      exact sTgt C h1 h2 (sX e X sc _ C h3).pe (swOk_ok h4 (by rw [hsc]; exact hfun) hsc)
    · cases h
  | .aug i o e, st, h => by
    simp only [chkS] at h
    split at h
    · obtain ⟨h1, h5⟩ := and2 h
      obtain ⟨h1, h4⟩ := and2 h1
      obtain ⟨h1, h3⟩ := and2 h1
      obtain ⟨h1, h2⟩ := and2 h1
      obtain rfl := of_decide_eq_true h1
      refine sAug C (of_decide_eq_true h3) h4 ?_ (sX e X sc _ C h5).pe
      cases o with
      | add => exact .inl rfl
      | sub => exact .inr rfl
      | _ => exact absurd (of_decide_eq_true h2) (by decide)
    · cases h
  | .put o k v, st, h => by
    simp only [chkS] at h
    split at h
    · obtain ⟨h1, h4⟩ := and2 h
      obtain ⟨h1, h3⟩ := and2 h1
      obtain ⟨h1, h2⟩ := and2 h1
      exact sPut C (by simpa using h1) (sX o X sc _ C h2).pe (sX k X sc _ C h3).pe (sX v X sc _ C h4).pe
    · cases h
  | .app i e, st, h => by
    simp only [chkS] at h
    split at h
    · obtain ⟨h1, h7⟩ := and2 h
      obtain ⟨h1, h6⟩ := and2 h1
      obtain ⟨h1, h5⟩ := and2 h1
      obtain ⟨h1, h4⟩ := and2 h1
      obtain ⟨h1, h3⟩ := and2 h1
      obtain ⟨h1, h2⟩ := and2 h1
      obtain rfl := of_decide_eq_true h1
      exact sApp (of_decide_eq_true h2) (C.vis _ h3) h4 h5 (by simpa using h6) (sX e X sc _ C h7).pe
    · cases h
  | .ext i e, st, h => by
    simp only [chkS] at h
    split at h
    · obtain ⟨h1, h7⟩ := and2 h
      obtain ⟨h1, h6⟩ := and2 h1
      obtain ⟨h1, h5⟩ := and2 h1
      obtain ⟨h1, h4⟩ := and2 h1
      obtain ⟨h1, h3⟩ := and2 h1
      obtain ⟨h1, h2⟩ := and2 h1
      obtain rfl := of_decide_eq_true h1
      exact sExt (of_decide_eq_true h2) (C.vis _ h3) h4 h5 (by simpa using h6) (sX e X sc _ C h7).pe
    · cases h
  | .ex e, st, h => by
    simp only [chkS] at h
    split at h
    · obtain ⟨h1, h2⟩ := and2 h
      exact sExp (by simpa using h1) (sX e X sc _ C h2).pe
    · cases h
  | .ret e, st, h => by
    simp only [chkS] at h
    split at h
    · exact sRet (sX e X sc _ C h).pe
    · cases h
  | .ownE i e, st, h => by
    cases e <;> first | (simp only [chkS] at h; cases h; done) | skip
    case bin o a b =>
      simp only [chkS] at h
      split at h
      · obtain ⟨h1, h4⟩ := and2 h
        obtain ⟨h1, h3⟩ := and2 h1
        obtain ⟨h1, h2⟩ := and2 h1
        exact sOwnAdd C (of_decide_eq_true h1) h2 (sX a X sc _ C h3).pe (sX b X sc _ C h4).pe
      · cases h
    case sl a lo hi =>
      simp only [chkS] at h
      split at h
      · rename_i x px y l hh p2 p3 pos
        obtain ⟨h1, h5⟩ := and2 h
        obtain ⟨h1, h4⟩ := and2 h1
        obtain ⟨h1, h3⟩ := and2 h1
        obtain ⟨h1, h2⟩ := and2 h1
        refine sOwnSl C (of_decide_eq_true h1) h2 (sX a X sc _ C h3).pe (sPart ?_) (sPart ?_)
        · cases l with
          | none => exact h4
          | some l =>
            obtain ⟨g1, g2⟩ := and2 h4
            exact ⟨by simpa using g1, (sX lo X sc _ C g2).pe⟩
        · cases hh with
          | none => exact h5
          | some l =>
            obtain ⟨g1, g2⟩ := and2 h5
            exact ⟨by simpa using g1, (sX hi X sc _ C g2).pe⟩
      · cases h
  | .ownD i t, st, h => by
    simp only [chkS] at h
    split at h
    · obtain ⟨h1, h2⟩ := and2 h
      exact sOwnD C (of_decide_eq_true h1) h2
    · cases h
  | .dput i k v, st, h => by
    simp only [chkS] at h
    split at h
    · obtain ⟨h1, h6⟩ := and2 h
      obtain ⟨h1, h5⟩ := and2 h1
      obtain ⟨h1, h4⟩ := and2 h1
      obtain ⟨h1, h3⟩ := and2 h1
      obtain ⟨h1, h2⟩ := and2 h1
      exact sDput C (of_decide_eq_true h1) (C.vis _ h2) h3 (by simpa using h4) (sX k X sc _ C h5).pe (sX v X sc _ C h6).pe
    · cases h
  | .setAt i k v, st, h => by
    simp only [chkS] at h
    split at h
    · obtain ⟨h1, h6⟩ := and2 h
      obtain ⟨h1, h5⟩ := and2 h1
      obtain ⟨h1, h4⟩ := and2 h1
      obtain ⟨h1, h3⟩ := and2 h1
      obtain ⟨h1, h2⟩ := and2 h1
      exact sSetAt C (of_decide_eq_true h1) (C.vis _ h2) h3 (by simpa using h4) (sX k X sc _ C h5).pe (sX v X sc _ C h6).pe
    · cases h
  | .fset o f e, st, h => by
    simp only [chkS] at h
    split at h
    · obtain ⟨h1, h5⟩ := and2 h
      obtain ⟨h1, h4⟩ := and2 h1
      obtain ⟨h1, h3⟩ := and2 h1
      obtain ⟨h1, h2⟩ := and2 h1
      obtain rfl := of_decide_eq_true h1
      exact sFset C (of_decide_eq_true h2) (sX o X sc _ C h4).pe (sX e X sc _ C h5).pe (by simpa using h3)
    · cases h
  | .retN, st, h => by
    simp only [chkS] at h
    split at h
    · exact sRetN
    · cases h
  | .ite c a b, st, h => by
    simp only [chkS] at h
    split at h
    · obtain ⟨h1, h3⟩ := and2 h
      obtain ⟨h1, h2⟩ := and2 h1
      exact sIf (sX c X sc _ C h1).pt (sSs C hsc hfun a _ h2) (sSs C hsc hfun b _ h3)
    · cases h
  | .forr k tg its b, st, h => by
    simp only [chkS] at h
    split at h
    · obtain ⟨h1, h4⟩ := and2 h
      obtain ⟨h1, h3⟩ := and2 h1
      obtain ⟨h1, h2⟩ := and2 h1
      exact sFor C (by simpa using h1) h2 (sI C (fun e x he hx => by subst he; exact (sX e X sc x C hx).pe) (fun xs hxs => sEs its X sc xs C hxs) (.inl h2) h3) (sSs C hsc hfun b _ h4)
    · cases h
  | .whl c b, st, h => by
    simp only [chkS] at h
    split at h
    · obtain ⟨h1, h2⟩ := and2 h
      exact sWhile C (sX c X sc _ C h1).pt (sSs C hsc hfun b _ h2)
    · cases h
  | .brk, st, h => by
    simp only [chkS] at h
    split at h
    · exact sBrk
    · cases h
  | .cont, st, h => by
    simp only [chkS] at h
    split at h
    · exact sCont
    · cases h
  | .pass, st, h => by
    simp only [chkS] at h
    split at h
    · exact sPass
    · cases h
  | .bad, st, h => ⟨fun pins s0 σ H D' I hh => by obtain ⟨F, G, θ, s, fl, s', R, ev, k⟩ := hh; simp only [exS] at ev; cases ev⟩
theorem sSs (C : Cxt D gc cf X sc) (hsc : X.env.scope = sc) (hfun : sc.kind = .function) : ∀ (a : List Sm) (st : List Stmt), chkSs D X.N sc a st = true → PSs X st (RSs gc cf wf (MX D.cl X) a)
  | [], st, h => by
    cases st with
    | cons _ _ => exact nomatch h
    | nil => exact sNil
  | a :: b, st, h => by
    cases st with
    | nil => exact nomatch h
    | cons x y =>
      simp only [chkSs] at h
      obtain ⟨h1, h2⟩ := and2 h
      exact sCons (sS C hsc hfun a x h1) (sSs C hsc hfun b y h2)
end
end
end Ev
/-! Functions: every def of the text keeps the evaluator's promise. -/
namespace Ev
open PySem PySem.Spec L2
open PyProof.Rows hiding St
structure FnI where
  name : Str
  qual : Str
  st : Stmt
  N : List Str
  P : List Str
  cls : Option Str := none
  prm : Option (Nat × List Nat × List Str) := none
structure FnS (D : Ds) (I : FnI) (fn : Fn) : Prop where
  scope : FnScope I.N I.P (defScope I.st)
  chk : chkSs D I.N (defScope I.st) fn.body (defBody I.st) = true
  par : I.P.length = fn.par
  loc : I.N.length = fn.loc
  cls : I.cls = fn.cls
  bnd : ∀ (kV doc pm : Value) (an : Option Addr) (cdv ct : Value) (us ws : List Value), (us ++ ws).length = I.P.length →
    bindArgs (PySem.W.fnOf I.name I.qual (defArgs I.st) (defBody I.st) (defScope I.st) .none kV doc pm an cdv ct) ⟨us, (I.P.drop us.length).zip ws⟩ = pure (I.P.zip (us ++ ws))
  prm : ∀ n qs ns, I.prm = some (n, qs, ns) → ∀ (kV doc pm : Value) (an : Option Addr) (cdv ct : Value) (us ws : List Value), us.length = n → ws.length = ns.length →
    bindArgs (PySem.W.fnOf I.name I.qual (defArgs I.st) (defBody I.st) (defScope I.st) .none kV doc pm an cdv ct) ⟨us, ns.zip ws⟩ = pure (I.P.zip (us ++ pick qs ws))
/-- the tables fit -/
def tabOk (D : Ds) (is : List (Nat × FnI)) : Bool :=
  D.fns.all (fun p => match is.lookup p.1 with
    | some I => decide (I.cls = none) && decide (I.name = p.2)
    | none => false) &&
  D.mks.all (fun p => match is.lookup p.1 with
    | some I => decide (I.cls = some p.2) && decide (p.2 ∈ D.cl)
    | none => false) &&
  is.all (fun p => decide (D.pars.lookup p.1 = some p.2.P)) &&
  D.prms.all (fun p => match is.lookup p.1 with
    | some I => decide (I.prm = some p.2)
    | none => false)
theorem lookup_mem {α : Type} : ∀ {l : List (Nat × α)} {k : Nat} {x : α}, l.lookup k = some x → (k, x) ∈ l
  | [], k, x, h => by simp at h
  | (a, b) :: l, k, x, h => by
    simp only [List.lookup] at h
    cases e : k == a with
    | true =>
      rw [e] at h
      cases h
      rw [eq_of_beq e]
      exact List.mem_cons_self
    | false =>
      rw [e] at h
      exact List.mem_cons_of_mem _ (lookup_mem h)
section
variable {P : Program} {w : World} {K : PySem.W.Frag} {mg : Str → Option Value} {base : Heap}
theorem FnS.kb {D : Ds} {I : FnI} {fn : Fn} (S : FnS D I fn) {fa : Addr} {fd : FuncData} (F : Fun K I.name I.qual I.st fa fd) : KB K fd I.P := by
  obtain ⟨oc, od, kV, doc, pm, an, cdv, ct, osl, rfl, lk, hcd⟩ := F.ex
  intro s us ws _ hl
  exact BindsTo.of_eq (S.bnd kV doc pm an cdv ct us ws hl)
theorem FnS.kp {D : Ds} {I : FnI} {fn : Fn} (S : FnS D I fn) {fa : Addr} {fd : FuncData} (F : Fun K I.name I.qual I.st fa fd) {n : Nat} {qs : List Nat} {ns : List Str} (h : I.prm = some (n, qs, ns)) : KP K fd I.P n qs ns := by
  obtain ⟨oc, od, kV, doc, pm, an, cdv, ct, osl, rfl, lk, hcd⟩ := F.ex
  intro s us ws _ hl hl2
  exact BindsTo.of_eq (S.prm n qs ns h kV doc pm an cdv ct us ws hl hl2)
inductive AllS (D : Ds) (fs : Nat → Option Fn) : List (Nat × FnI) → Prop
  | nil : AllS D fs []
  | cons {f : Nat} {I : FnI} {fn : Fn} {is : List (Nat × FnI)} : fs f = some fn → FnS D I fn → AllS D fs is → AllS D fs ((f, I) :: is)
theorem AllS.get {D : Ds} {fs : Nat → Option Fn} : ∀ {is : List (Nat × FnI)}, AllS D fs is → ∀ (f : Nat) I, is.lookup f = some I → ∃ fn, fs f = some fn ∧ FnS D I fn
  | _, .nil, f, I, h => by simp at h
  | _, .cons (f := g) e a b, f, I, h => by
    simp only [List.lookup] at h
    cases z : f == g with
    | true =>
      rw [z] at h
      cases h
      rw [eq_of_beq z]
      exact ⟨_, e, a⟩
    | false =>
      rw [z] at h
      exact b.get f I h
structure Dyn (K : PySem.W.Frag) (mg : Str → Option Value) (is : List (Nat × FnI)) (D : Ds) (gc : Nat → Option Tr) : Prop where
  fns : ∀ (f : Nat) I, is.lookup f = some I → ∃ (fa : Addr) (fd : FuncData), Fun K I.name I.qual I.st fa fd ∧ (I.cls = none → mg I.name = some (.ref fa)) ∧ ∀ c, I.cls = some c → ∃ C, mg c = some (.ref C) ∧ Mk K C fa
  gl : ∀ (k : Nat) t x, gc k = some t → D.gls.lookup k = some x → ∃ v u, mg x = some u ∧ RelV v u ∧ ∀ P w, Rp ⟨P, w, K, mg, D.cl⟩ (fun _ => none) [] t v
  cls : ∀ c ∈ D.cl, ∃ C, mg c = some (.ref C) ∧ ClsF K D.fl C
  kit2 : ∀ c ∈ D.cl, ∀ c' ∈ D.cl, ∀ C C', mg c = some (.ref C) → mg c' = some (.ref C') → PySem.W.kitOne K (.ref C') (.ref C) = some (decide (c' = c))
  blt : ∀ x ∈ D.blts, mg x = none
theorem Rel.begin {K : Mx} {F G H : Hp} {θ : List Addr} {m : List Ob} {ts : List Tr} {vs : List V} {N : List Str} {n : Nat} (M : RelM K F G θ m H) (r : Rps K F θ ts vs) (hn : N.length = n) :
    Rel K F G θ ⟨ts.map Slot.val ++ List.replicate (n - ts.length) Slot.none, m⟩ (L2.start N vs) H := by
  have hl := r.length
  refine ⟨M, ?_, fun i x e => ?_, fun i j l l' a e1 => ?_⟩
  · unfold L2.start
    simp [hl, hn]
  · have e' : (ts.map Slot.val ++ List.replicate (n - ts.length) Slot.none)[i]? = some x := e
    by_cases hi : i < ts.length
    · rw [List.getElem?_append_left (by simpa using hi), List.getElem?_map] at e'
      cases e2 : ts[i]? with
      | none => rw [e2] at e'; cases e'
      | some t =>
        rw [e2] at e'
        cases e'
        obtain ⟨v, h1, h2⟩ := r.get e2
        refine ⟨v, ?_, h2⟩
        unfold L2.start
        rw [List.getElem?_append_left (by simp; omega), List.getElem?_map, h1]
        rfl
    · rw [List.getElem?_append_right (by simpa using hi), List.getElem?_replicate] at e'
      split at e'
      · cases e'; exact trivial
      · cases e'
  · have e' : (ts.map Slot.val ++ List.replicate (n - ts.length) Slot.none)[i]? = some (.own l) := e1
    by_cases hi : i < ts.length
    · rw [List.getElem?_append_left (by simpa using hi), List.getElem?_map] at e'
      cases e2 : ts[i]? with
      | none => rw [e2] at e'; cases e'
      | some t => rw [e2] at e'; cases e'
    · rw [List.getElem?_append_right (by simpa using hi), List.getElem?_replicate] at e'
      split at e' <;> cases e'
/-- an object that stands is shared -/
theorem RelM.adopt {K : Mx} {F G H : Hp} {θ : List Addr} {m : List Ob} {p : Addr} {l : Ob} {o : HO} (R : RelM K F G θ m H) (h : H p = some o) (f : F p = none) (g : G p = none) (t : p ∉ θ) (r : RpB K F θ p l o) : RelM K F G (θ ++ [p]) (m ++ [l]) H := by
  have pre : θ <+: θ ++ [p] := List.prefix_append _ _
  refine ⟨R.fle, R.gle, R.fg, by rw [List.length_append, List.length_append, R.len]; rfl, ?_, fun a u e hm => ?_, fun a hm => ?_, fun k u e hu => ?_⟩
  · rw [List.nodup_append]
    exact ⟨R.nd, by simp, fun a ha b hb => by simp at hb; subst hb; exact fun z => t (z ▸ ha)⟩
  · rcases List.mem_append.mp hm with z | z
    · exact R.gt a u e z
    · simp at z
      subst z
      rw [g] at e
      cases e
  · rcases List.mem_append.mp hm with z | z
    · exact R.al a z
    · simp at z
      subst z
      exact ⟨_, h⟩
  · by_cases hk : k < m.length
    · rw [List.getElem?_append_left hk] at e
      obtain ⟨a, h1, h2, h3, zs, q, rz⟩ := R.ob k u e hu
      exact ⟨a, pre_get pre h1, h2, h3, zs, q, rz.mono (FLe.refl _) pre⟩
    · rw [List.getElem?_append_right (by omega)] at e
      have e0 : k - m.length = 0 := by
        rcases Nat.eq_zero_or_pos (k - m.length) with z | z
        · exact z
        · rw [List.getElem?_eq_none (by simp; omega)] at e; cases e
      rw [e0] at e
      cases e
      have ek : k = θ.length := by rw [← R.len]; omega
      subst ek
      exact ⟨p, by simp, f, g, o, h, r.mono (FLe.refl _) pre⟩
theorem funs {D : Ds} {gc : Nat → Option Tr} {wf : Nat} {fs : Nat → Option Fn} {is : List (Nat × FnI)} (hT : tabOk D is = true) (S : AllS D fs is) (dyn : Dyn K mg is D gc) :
    ∀ (d f : Nat) I fa fd, is.lookup f = some I → Fun K I.name I.qual I.st fa fd → (I.cls = none → FnG P w K mg base d fa fd I.P (SpE ⟨P, w, K, mg, D.cl⟩ (callF gc wf fs d) f I.P.length)) ∧
      ∀ c, I.cls = some c → FnG P w K mg base (d - 1) fa fd I.P (SpI ⟨P, w, K, mg, D.cl⟩ (callF gc wf fs d) f I.P.length c) := fun d => by
  refine Nat.strongRecOn d fun d IH f I fa fd hI hF => ?_
  cases d with
  | zero => exact ⟨fun _ => ⟨fun vs H Q E h => h.1, fun A outer s H args us vs Q E _ _ _ _ _ h => by
      obtain ⟨_, F, G, θ, ts, m, t, m', _, _, e, _⟩ := h
      simp only [callF] at e
      cases e⟩, fun c _ => ⟨fun vs H Q E h => h.1, fun A outer s H args us vs Q E _ _ _ _ _ h => by
      obtain ⟨_, F, G, θ, ts, m, t, m', x, us, C, dx, _, _, _, _, _, _, _, _, _, e, _⟩ := h
      simp only [callF] at e
      cases e⟩⟩
  | succ d =>
    obtain ⟨fn, hfn, hS⟩ := S.get f I hI
    have hT' := hT
    unfold tabOk at hT'
    simp only [Bool.and_eq_true] at hT'
    obtain ⟨⟨⟨t1, t2⟩, t3⟩, t4⟩ := hT'
    have pars : ∀ (g : Nat) J, is.lookup g = some J → D.pars.lookup g = some J.P := fun g J e => of_decide_eq_true (List.all_eq_true.mp t3 (g, J) (lookup_mem e))
    have ctx : ∀ {d : Nat} (fns : ∀ (e f : Nat) I fa fd, e ≤ d → is.lookup f = some I → Fun K I.name I.qual I.st fa fd → (I.cls = none → FnG P w K mg base e fa fd I.P (SpE ⟨P, w, K, mg, D.cl⟩ (callF gc wf fs e) f I.P.length)) ∧
      ∀ c, I.cls = some c → FnG P w K mg base (e - 1) fa fd I.P (SpI ⟨P, w, K, mg, D.cl⟩ (callF gc wf fs e) f I.P.length c)) {cdv : Value} {A : Around} {outer : List Env} {s : Shared} {H : Hp} {E : XK}, Room d (A.deeper (envOfC I.qual (defScope I.st) s.heap.objs.size fa cdv)) → A.guards = some [] → Cxt D gc (callF gc wf fs d) (cxOf CX0 P w K mg base I.N I.qual (defScope I.st) fa cdv A outer s H E).nox (defScope I.st) := by
      intro d fns cdv A outer s H E hr hgd
      refine ⟨hS.scope.nd, rfl, hgd, rfl, fun x h => visB_ok h, fun x h => ⟨locB_ok h, .inl rfl⟩, fun x h => ?_, fun sc own h => blkOk_by h, fun k t x e1 e2 => ?_, dyn.cls, dyn.kit2, fun g x hg ts m r hr' => ?_, dyn.blt, ?_, fun g x hg ts m r hr' => ?_, fun g x n qs ns hg hn ts m r hr' => ?_⟩
      · unfold glB at h
        split at h
        · assumption
        · cases h
      · obtain ⟨v, u, g1, g2, g3⟩ := dyn.gl k t x e1 e2
        exact ⟨v, u, g1, g2, g3 _ _⟩
      · have q := List.all_eq_true.mp t2 (g, x) (lookup_mem hg)
        cases e : is.lookup g with
        | none => simp only [e] at q; cases q
        | some J =>
          simp only [e, Bool.and_eq_true, decide_eq_true_eq] at q
          obtain ⟨ga, gd, h1, _, h3⟩ := dyn.fns g J e
          obtain ⟨gn, hgn, hSg⟩ := S.get g J e
          obtain ⟨C0, h4, h5⟩ := h3 x q.1
          cases d with
          | zero => simp only [callF] at hr'; cases hr'
          | succ d =>
            refine ⟨C0, ga, gd, J.P, d, q.2, h4, h5, hSg.kb h1, hr, (fns (d + 1) g J ga gd (Nat.le_refl _) e h1).2 x q.1, ?_⟩
            simp only [callF, hgn, ← hSg.cls, q.1] at hr'
            cases d with
            | zero => cases hr'
            | succ d =>
              simp only at hr'
              split at hr'
              · rename_i hh; rw [hh, hSg.par]
              · cases hr'
      · have := hr.un
        show (A.deeper (envOfC I.qual (defScope I.st) s.heap.objs.size fa cdv)).units + 200 < cLine
        omega
      · have q := List.all_eq_true.mp t1 (g, x) (lookup_mem hg)
        cases e : is.lookup g with
        | none => simp only [e] at q; cases q
        | some J =>
          simp only [e, Bool.and_eq_true, decide_eq_true_eq] at q
          obtain ⟨ga, gd, h1, h2, _⟩ := dyn.fns g J e
          obtain ⟨gn, hgn, hSg⟩ := S.get g J e
          have h2 := h2 q.1
          rw [q.2] at h2
          refine ⟨ga, gd, J.P, d, pars g J e, h2, h1.kp, hSg.kb h1, hr, (fns d g J ga gd (Nat.le_refl _) e h1).1 q.1, ?_⟩
          cases d with
          | zero => simp only [callF] at hr'; cases hr'
          | succ d =>
            simp only [callF, hgn, ← hSg.cls, q.1] at hr'
            split at hr'
            · rename_i hh; rw [hh, hSg.par]
            · cases hr'
      · have q := List.all_eq_true.mp t1 (g, x) (lookup_mem hg)
        have q4 := List.all_eq_true.mp t4 _ (lookup_mem hn)
        cases e : is.lookup g with
        | none => simp only [e] at q; cases q
        | some J =>
          simp only [e, Bool.and_eq_true, decide_eq_true_eq] at q q4
          obtain ⟨ga, gd, h1, h2, _⟩ := dyn.fns g J e
          obtain ⟨gn, hgn, hSg⟩ := S.get g J e
          have h2 := h2 q.1
          rw [q.2] at h2
          refine ⟨ga, gd, J.P, d, pars g J e, h2, h1.kp, hSg.kp h1 q4, hr, (fns d g J ga gd (Nat.le_refl _) e h1).1 q.1, ?_⟩
          cases d with
          | zero => simp only [callF] at hr'; cases hr'
          | succ d =>
            simp only [callF, hgn, ← hSg.cls, q.1] at hr'
            split at hr'
            · rename_i hh; rw [hh, hSg.par]
            · cases hr'
    have vac : d = 0 → ∀ c, I.cls = some c → FnG P w K mg base (d + 1 - 1) fa fd I.P (SpI ⟨P, w, K, mg, D.cl⟩ (callF gc wf fs (d + 1)) f I.P.length c) := fun hd c hc => by
      subst hd
      refine ⟨fun vs H Q E h => h.1, fun A outer s H args us vs Q E _ _ _ _ _ h => ?_⟩
      obtain ⟨_, F, G, θ, ts, m, t, m', x, us, C, dx, _, _, _, _, _, _, _, _, _, e, _⟩ := h
      simp only [callF, hfn, ← hS.cls, hc] at e
      cases e
    refine ⟨fun hc => ?_, fun c hc => ?_⟩
    · refine fnG hF hS.scope (fun vs H Q E h => h.1) fun cdv A outer s H vs Q E hr hgd hsp => ?_
      refine ⟨_, sSs (wf := wf) (ctx (fun e f I fa fd _ h1 h2 => IH e (by omega) f I fa fd h1 h2) hr hgd) rfl hS.scope.kind _ _ hS.chk, ?_⟩
      obtain ⟨hl, F, G, θ, ts, m, t, m', M, rr, ev, k⟩ := hsp
      simp only [callF, hfn, ← hS.cls, hc] at ev
      split at ev
      · generalize hx : exSs gc (callF gc wf fs d) wf fn.body _ = rs at ev
        cases rs with
        | no => cases ev
        | ok fl s' =>
          cases fl with
          | next =>
            cases ev
            refine ⟨F, G, θ, _, .next, s', Rel.begin M rr hS.loc, hx, fun σ' H' F' θ' R l p => ?_⟩
            exact k .non H' F' θ' R.m l p .non
          | ret t' =>
            cases ev
            refine ⟨F, G, θ, _, .ret t, s', Rel.begin M rr hS.loc, hx, fun v σ' H' F' θ' R l p r => ?_⟩
            exact k v H' F' θ' R.m l p r
          | brk => cases ev
          | cont => cases ev
      · cases ev
    · cases d with
      | zero => exact vac rfl c hc
      | succ d =>
      refine fnG hF hS.scope (fun vs H Q E h => h.1) fun cdv A outer s H vs Q E hr hgd hsp => ?_
      refine ⟨_, sSs (wf := wf) (ctx (d := d) (fun e f I fa fd _ h1 h2 => IH e (by omega) f I fa fd h1 h2) hr hgd) rfl hS.scope.kind _ _ hS.chk, ?_⟩
      obtain ⟨hl, F, G, θ, ts, m, t, m', x, us, C0, dx, rfl, hcl, hmg, hx0, hFx, hGx, hθx, M, rr, ev, k⟩ := hsp
      simp only [callF, hfn, ← hS.cls, hc] at ev
      split at ev
      · rename_i hlen
        generalize hx : exSs gc (callF gc wf fs d) wf fn.body _ = rs at ev
        have M2 := M.adopt (l := .ins c [] []) hx0 hFx hGx hθx ⟨C0, dx, [], rfl, hcl, hmg, rfl, .nil⟩
        have rr2 : Rps (⟨P, w, K, mg, D.cl⟩ : Mx) F (θ ++ [x]) (.ob m.length :: ts) (.ref x :: us) := .cons (.ob (by rw [M.len]; simp)) (rr.mono (FLe.refl _) (List.prefix_append _ _))
        have RB := Rel.begin (N := I.N) M2 rr2 hS.loc
        cases rs with
        | no => cases ev
        | ok fl s' =>
          cases fl with
          | next =>
            refine ⟨F, G, θ ++ [x], _, .next, s', RB, hx, fun σ' H' F' θ' R l p => ?_⟩
            simp only [doneC] at ev
            split at ev
            · rename_i c' ns ll em
              cases ev
              obtain ⟨a, q1, q2, q3, ho, q4, q5⟩ := R.m.ob m.length _ em (fun z => nomatch z)
              have ex : θ'[m.length]? = some x := pre_get p (by rw [M.len]; simp)
              rw [ex] at q1
              cases q1
              have R2 := R.memGone em (fun z => nomatch z) ex q4
              have f' : F' x = none := q2
              exact k H' _ θ' R2.m (l.trans (FLe.upd1 f')) ((List.prefix_append _ _).trans p) ((q5.mono (FLe.upd1 f') (List.prefix_refl _)).rp upd_same)
            · cases ev
          | ret t' => cases ev
          | brk => cases ev
          | cont => cases ev
      · cases ev
/-- what is asked of a law at its script -/
theorem spe_law {K : Mx} {cf : CF} {f : Nat} {H : Hp} {a : Addr} {ns : List Int} {m' : List Ob} {E : XK} (h : SqL K H a (ns.map V.int)) (e : cf f [.flst (ns.map .int)] [] = some (.bl true, m')) :
    SpE K cf f 1 [.ref a] H (fun v _ => v = .bl true) E := by
  have intsR : ∀ (ns : List Int), Rps K H [] (ns.map Tr.int) (ns.map V.int) := by
    intro ns
    induction ns with
    | nil => exact .nil
    | cons n ns ih => exact .cons (.int n) ih
  refine ⟨rfl, H, fun _ => none, [], _, [], _, m', ⟨FLe.refl H, fun a o z => (nomatch z), fun a o z => (nomatch z), rfl, List.nodup_nil, fun a o z => (nomatch z), fun a z => (nomatch z), fun n o z => ?_⟩, .cons (.flst h (intsR ns)) .nil, e, fun v H' F' θ' _ _ _ r => ?_⟩
  · simp at z
  · cases r; rfl
end
/-- THE HEAD, where no repr is under way -/
theorem law_callG {P : Program} {w : World} {K : PySem.W.Frag} {mg mb : Str → Option Value} {k : Nat} {fa a : Addr} {fd : FuncData} {x : Str} {sp : Sp} {s₁ : Shared} {vs : List Value} {ns : List Int}
    (KX : K.In s₁.heap) (hns : s₁.heap.Ns mainGlobals mg) (hb : s₁.heap.Ns builtinsNs mb) (hbb : ∀ x : Str, x ≠ "__name__" → mb x = bootBuiltins x) (hlim : s₁.heap.NoLimit) (hg : s₁.gens = #[])
    (ha : s₁.heap.get? a = some { cls := .type "list", data := .seq vs.toArray }) (hi : IntsAre vs ns) (hl : ns.length ≤ sizeLine) (hr : Room k callerA)
    (F : ∀ base : Heap, K.In base → base.Ns mainGlobals mg → FnG P w K mg base k fa fd [x] sp) (hbind : ∀ (s : Shared) (u : Value), BindsTo s fd ⟨[u], []⟩ [(x, u)])
    (hsp : ∀ H : Hp, Only H → SqL K H a (ns.map V.int) → sp [.ref a] H (fun v _ => v = .bl true) fun _ _ _ => False) :
    codeAny (model P w) callerA (.call (.ref fa) ⟨[.ref a], []⟩) (fun r s' => r = .ok (.ret (.bool true)) ∧ OldK s₁.heap s'.heap ∧ s'.os = s₁.os ∧ AllBare s'.gens) s₁ := by
  have rv := vals_ints hi
  have lenV := hi.length
  have core : ∀ H : Hp, Only H → SqL K H a (ns.map V.int) → HOk P w H s₁.heap → (∀ b, H b ≠ none → b = a) → (H a ≠ none → K.lookup a = none) →
      codeAny (model P w) callerA (.call (.ref fa) ⟨[.ref a], []⟩) (fun r s' => r = .ok (.ret (.bool true)) ∧ OldK s₁.heap s'.heap ∧ s'.os = s₁.os ∧ AllBare s'.gens) s₁ := by
    intro H hO hS hok hA hK
    have base_of : ∀ {b : Addr} {o : Obj}, s₁.heap.get? b = some o → H b = none → (hidT s₁.heap H).get? b = some o := fun e n => hidT_get e n
    have noA : ∀ {b : Addr} {o : Obj} {es : Array DictEntry} {ep : Nat}, s₁.heap.get? b = some o → o.data = .dict es ep → H b = none := fun {b o es ep} e d => by
      cases q : H b with
      | none => rfl
      | some u =>
        have e' : b = a := hA b (by rw [q]; simp)
        subst e'
        rw [ha] at e; cases e
        have d' : Data.seq vs.toArray _ = Data.dict es ep := d
        cases d'
    have nsK : ∀ {b : Addr} {m : Str → Option Value}, s₁.heap.Ns b m → (hidT s₁.heap H).Ns b m := fun {b m} ⟨o, es, ep, e, d, r⟩ => ⟨o, es, ep, base_of e (noA e d), d, r⟩
    have hKb : K.In (hidT s₁.heap H) := fun b o e => base_of (KX b o e) (by
      cases q : H b with
      | none => rfl
      | some u =>
        have e' : b = a := hA b (by rw [q]; simp)
        subst e'
        rw [hK (by rw [q]; simp)] at e; cases e)
    have hM : Mod K mg (hidT s₁.heap H) := ⟨hKb, nsK hns, ⟨mb, nsK hb, hbb⟩, let ⟨mc, h1, h2⟩ := hlim; ⟨mc, nsK h1, h2⟩⟩
    have e0 : Env0 P w K mg (hidT s₁.heap H) callerA [] s₁ H := ⟨rfl, hM, fun b o e => of_hidT e, Nat.le_of_eq (hidT_size _ _), trivial, fun b hb => absurd (show b ∈ ([] : List Addr) from hb) (by simp), hok, .of_eq hg⟩
    refine codeAny_mono ((F _ hKb (nsK hns)).run callerA [] s₁ H ⟨[.ref a], []⟩ [.ref a] [.ref a] _ _ hr rfl e0 (hbind s₁ (.ref a)) (.cons rfl .nil) (hsp H hO hS)) fun r s' h => ?_
    cases r with
    | error e => exact False.elim h
    | ok fl =>
      cases fl with
      | next => exact False.elim h
      | brk => exact False.elim h
      | cont => exact False.elim h
      | ret u =>
        obtain ⟨v, H', os, bare, un, hok', r', q⟩ := h
        have q' : v = .bl true := q
        subst q'
        obtain rfl : u = Value.bool true := r'
        refine ⟨rfl, OldK.of_keep fun b o e => ?_, os, bare⟩
        cases q : H b with
        | none => exact un.keep b o e q (by intro z; exact absurd (show b ∈ ([] : List Addr) from z) (by simp)) (by simp)
        | some u =>
          rcases hO b with z | ⟨ob, xs, z⟩
          · rw [q] at z; cases z
          · have z2 := un.frzs b ob _ z
            obtain ⟨e1, _⟩ := hok b _ z
            obtain ⟨e2, _⟩ := hok' b _ z2
            rw [e] at e1; cases e1
            exact e2
  cases hk : K.lookup a with
  | some o =>
    have e := KX a o hk
    rw [ha] at e
    cases e
    refine core (fun _ => none) (fun _ => .inl rfl) (.inr ⟨_, vs.toArray, _, hk, rfl, rfl, rfl, by rw [List.size_toArray, lenV]; exact hl, by simpa using rv⟩) (fun b u z => by have z' : (none : Option HO) = some u := z; cases z') (fun b z => absurd rfl z) fun z => absurd rfl z
  | none =>
    refine core (fun b => if b = a then some (.frz { cls := .type "list", data := .seq vs.toArray } (.lst (ns.map V.int))) else none) (fun b => ?_) (.inl (.inr ⟨{ cls := .type "list", data := .seq vs.toArray }, if_pos rfl⟩)) (fun b u z => ?_) (fun b z => ?_) fun _ => hk
    · by_cases hb : b = a
      · exact .inr ⟨_, _, if_pos hb⟩
      · exact .inl (if_neg hb)
    · by_cases hb : b = a
      · have z' := (if_pos hb).symm.trans z
        cases z'
        subst hb
        exact ⟨ha, by rw [List.length_map]; exact hl, vs, _, rv, ha⟩
      · have z' := (if_neg hb).symm.trans z
        cases z'
    · by_cases hb : b = a
      · exact hb
      · exact absurd (if_neg hb) z
/-- the goal that k_head leaves (case hc) -/
theorem walk_G {l : PySem.W.OpenLaw} {n d0 wf li : Nat} {q : Program} {loose : List Str} {XP : (Str → Option Value) → Heap → Prop} {YP : World → Heap → Prop} {d : DefRec} {K : Params → PySem.W.Frag} {x : Str} {D : Ds} {gc : Nat → Option Tr} {fs : Nat → Option Fn} {is : List (Nat × FnI)} {I : FnI}
    (hn : l.most = some n) (hn2 : n ≤ sizeLine) (hdf : d.params.defaults = []) (hr : Room d0 callerA)
    (hY : ∀ (w : World) (h : Heap), YP w h → (K w.params).In h)
    (hT : tabOk D is = true) (S : AllS D fs is)
    (hI : is.lookup li = some I) (hcl : I.cls = none) (hnm : d.name = I.name) (hP : I.P = [x])
    (dyn : ∀ (w : World) (mg : Str → Option Value) (h : Heap), (K w.params).In h → h.Ns mainGlobals mg → Dyn (K w.params) mg is D gc)
    (hlaw : ∀ ns : List Int, ns.length ≤ n → ∃ m', callF gc wf fs d0 li [.flst (ns.map .int)] [] = some (.bl true, m')) :
    PySem.W.WalkO q loose XP YP l.row.toRowW d [] (fun f vs => PySem.call f vs) := by
  refine Att.attach_call hn hdf fun w s₀ s₁ mg mb fa o pm cd doc a vs ns G Y ho hd hcd hmg hobj hints hlen' hg => ?_
  have KX := hY w _ Y
  have dy := dyn w mg _ KX G.T.g
  obtain ⟨fa', fd, h2, h1, _⟩ := dy.fns li I hI
  have h1 := h1 hcl
  rw [← hnm, hmg] at h1
  cases h1
  obtain ⟨fn, hfn, hSl⟩ := S.get li I hI
  obtain ⟨m', e⟩ := hlaw ns hlen'
  have hkb := hSl.kb h2
  refine law_callG (fd := fd) (x := x) KX G.T.g G.T.b G.T.builtins G.T.nolimit hg hobj hints (Nat.le_trans hlen' hn2) hr (fun base hb hns => ?_) (fun s u => ?_) (fun H hO hS => spe_law (K := ⟨l.prog, w, K w.params, mg, D.cl⟩) (f := li) hS e)
  · have z := (funs (P := l.prog) (w := w) (base := base) (wf := wf) hT S dy d0 li I fa fd hI h2).1 hcl
    rw [hP] at z
    exact z
  · obtain ⟨oc, od, kV, doc', pm', an, cdv, ct, osl, rfl, lk, hcd⟩ := h2.ex
    have z := BindsTo.of_eq (s := s) (hSl.bnd kV doc' pm' an cdv ct [u] [] (by rw [hP]; rfl))
    rw [hP] at z
    exact z
end Ev
/-! What the top has written: constants, functions. -/
namespace Ev
open PySem PySem.Spec L2
open PyProof.Rows hiding St
mutual
def okV (K : PySem.W.Frag) : Tr → Value → Bool
  | .non, u => match u with
    | .none => true
    | _ => false
  | .bl b, u => match u with
    | .bool c => b == c
    | _ => false
  | .int i, u => match u with
    | .int j _ => decide (i = j)
    | _ => false
  | .str z, u => match u with
    | .str y _ => decide (z = y)
    | _ => false
  | .tup l, u => match u with
    | .ref a => (match K.lookup a with
      | some ⟨.type c, _, .seq its _, _⟩ => decide (c = "tuple") && decide (its.size ≤ sizeLine) && okVs K l its.toList
      | _ => false)
    | _ => false
  | _, _ => false
def okVs (K : PySem.W.Frag) : List Tr → List Value → Bool
  | [], us => match us with
    | [] => true
    | _ => false
  | t :: l, us => match us with
    | u :: us => okV K t u && okVs K l us
    | _ => false
end
mutual
theorem okV_ok {K : PySem.W.Frag} : ∀ (t : Tr) (u : Value), okV K t u = true → ∃ v, RelV v u ∧ ∀ (M : Mx) (F : Hp) (θ : List Addr), M.K = K → Rp M F θ t v
  | .non, u, h => by
    simp only [okV] at h
    split at h
    · exact ⟨.non, rfl, fun _ _ _ _ => .non⟩
    · cases h
  | .bl b, u, h => by
    simp only [okV] at h
    split at h
    · obtain rfl := eq_of_beq h
      exact ⟨.bl b, rfl, fun _ _ _ _ => .bl b⟩
    · cases h
  | .int i, u, h => by
    simp only [okV] at h
    split at h
    · obtain rfl := of_decide_eq_true h
      exact ⟨.int i, ⟨_, rfl⟩, fun _ _ _ _ => .int i⟩
    · cases h
  | .str z, u, h => by
    simp only [okV] at h
    split at h
    · obtain rfl := of_decide_eq_true h
      exact ⟨.str z, ⟨_, rfl⟩, fun _ _ _ _ => .str z⟩
    · cases h
  | .tup l, u, h => by
    simp only [okV] at h
    split at h
    · split at h
      · rename_i a x0 c d its n sl e
        obtain ⟨h1, h2⟩ := and2 h
        obtain ⟨h1, h3⟩ := and2 h1
        obtain rfl := of_decide_eq_true h1
        obtain ⟨vs, q1, q2⟩ := okVs_ok l its.toList h2
        exact ⟨.ref a, rfl, fun M F θ hM => .tup (.inr ⟨_, its, n, by rw [hM]; exact e, rfl, rfl, of_decide_eq_true h3, q1⟩) (q2 M F θ hM)⟩
      · cases h
    · cases h
  | .lst l, u, h => by simp only [okV] at h; cases h
  | .dk _ _, u, h => by simp only [okV] at h; cases h
  | .dt _ _, u, h => by simp only [okV] at h; cases h
  | .ins _ _ _, u, h => by simp only [okV] at h; cases h
  | .flst l, u, h => by simp only [okV] at h; cases h
  | .ob n, u, h => by simp only [okV] at h; cases h
  | .bor n, u, h => by simp only [okV] at h; cases h
theorem okVs_ok {K : PySem.W.Frag} : ∀ (l : List Tr) (us : List Value), okVs K l us = true → ∃ vs, Vals vs us ∧ ∀ (M : Mx) (F : Hp) (θ : List Addr), M.K = K → Rps M F θ l vs
  | [], us, h => by
    simp only [okVs] at h
    split at h
    · exact ⟨[], .nil, fun _ _ _ _ => .nil⟩
    · cases h
  | t :: l, us, h => by
    cases us with
    | nil => simp only [okVs] at h; cases h
    | cons u us =>
      simp only [okVs] at h
      obtain ⟨h1, h2⟩ := and2 h
      obtain ⟨v, q1, q2⟩ := okV_ok t u h1
      obtain ⟨vs, q3, q4⟩ := okVs_ok l us h2
      exact ⟨v :: vs, .cons q1 q3, fun M F θ hM => .cons (q2 M F θ hM) (q4 M F θ hM)⟩
end
/-- a def as the top has written it; an __init__ of a class -/
structure FK (K : PySem.W.Frag) (I : FnI) : Prop where
  ex : ∃ (f : Addr) (fd : FuncData), Fun K I.name I.qual I.st f fd ∧ (I.cls = none → PySem.W.nsIn K mainGlobals I.name = some (some (.ref f))) ∧ ∀ c, I.cls = some c → ∃ C, PySem.W.nsIn K mainGlobals c = some (some (.ref C)) ∧ Mk K C f
theorem fk {K : PySem.W.Frag} {I : FnI} {f : Addr} {oc : Value} {od an : Option Addr} {osl : Array (Option Value)} {kV doc pm cdv ct : Value} {x : Str} {st : Stmt} (e : I.name = x) (e3 : I.qual = x) (e2 : I.st = st) (hc : I.cls = none) (a : PySem.W.nsIn K mainGlobals x = some (some (.ref f)))
    (l : K.lookup f = some ⟨oc, od, .func (PySem.W.fnOf x x (defArgs st) (defBody st) (defScope st) .none kV doc pm an cdv ct), osl⟩) (c : PySem.W.codeIn K cdv x = true) (k : PySem.W.keepIn K (.ref f) = true) : FK K I := by
  subst e e2
  rw [← e3] at l c
  refine ⟨f, _, fun_mk (by rw [e3] at l ⊢; exact l) c k, fun _ => a, fun c' h => ?_⟩
  rw [hc] at h
  cases h
theorem fkC {K : PySem.W.Frag} {I : FnI} {f C : Addr} {oc : Value} {od an : Option Addr} {osl : Array (Option Value)} {kV doc pm cdv ct : Value} {x q cn : Str} {st : Stmt} (e : I.name = x) (e3 : I.qual = q) (e2 : I.st = st) (hc : I.cls = some cn) (a : PySem.W.nsIn K mainGlobals cn = some (some (.ref C)))
    (i : PySem.W.findIn K (.ref C) "__init__" = some (some (.ref f))) (fn : PySem.W.isFn K (.ref f) = true) (l : K.lookup f = some ⟨oc, od, .func (PySem.W.fnOf x q (defArgs st) (defBody st) (defScope st) .none kV doc pm an cdv ct), osl⟩) (c : PySem.W.codeIn K cdv q = true) (k : PySem.W.keepIn K (.ref f) = true)
    (mk : PySem.W.makesIn K C = true) (kc : PySem.W.keepIn K (.ref C) = true) : FK K I := by
  subst e e2 e3
  refine ⟨f, _, fun_mk l c k, fun h => ?_, fun c' h => ?_⟩
  · rw [hc] at h
    cases h
  · rw [hc] at h
    cases h
    exact ⟨C, a, mk, i, fn, kc⟩
inductive AllF (K : PySem.W.Frag) : List (Nat × FnI) → Prop
  | nil : AllF K []
  | cons {n : Nat} {I : FnI} {is : List (Nat × FnI)} : FK K I → AllF K is → AllF K ((n, I) :: is)
theorem AllF.get {K : PySem.W.Frag} : ∀ {is : List (Nat × FnI)}, AllF K is → ∀ (f : Nat) I, is.lookup f = some I → FK K I
  | _, .nil, f, I, h => by simp at h
  | _, .cons (n := g) a b, f, I, h => by
    simp only [List.lookup] at h
    cases z : f == g with
    | true => rw [z] at h; cases h; exact a
    | false => rw [z] at h; exact b.get f I h
inductive AllC (K : PySem.W.Frag) (gc : Nat → Option Tr) : List (Nat × Str) → Prop
  | nil : AllC K gc []
  | cons {k : Nat} {t : Tr} {x : Str} {xs : List (Nat × Str)} {u : Value} : gc k = some t → PySem.W.nsIn K mainGlobals x = some (some u) → okV K t u = true → AllC K gc xs → AllC K gc ((k, x) :: xs)
theorem AllC.get {K : PySem.W.Frag} {gc : Nat → Option Tr} : ∀ {xs : List (Nat × Str)}, AllC K gc xs → ∀ (k : Nat) t x, gc k = some t → xs.lookup k = some x → ∃ u, PySem.W.nsIn K mainGlobals x = some (some u) ∧ okV K t u = true
  | _, .nil, k, t, x, h, h' => by simp at h'
  | _, .cons (k := j) e a b c, k, t, x, h, h' => by
    simp only [List.lookup] at h'
    cases z : k == j with
    | true =>
      rw [z] at h'
      cases h'
      rw [eq_of_beq z, e] at h
      cases h
      exact ⟨_, a, b⟩
    | false => rw [z] at h'; exact c.get k t x h h'
inductive AllB (K : PySem.W.Frag) : List Str → Prop
  | nil : AllB K []
  | cons {x : Str} {xs : List Str} : PySem.W.nsIn K mainGlobals x = some none → AllB K xs → AllB K (x :: xs)
theorem AllB.get {K : PySem.W.Frag} : ∀ {xs : List Str}, AllB K xs → ∀ x ∈ xs, PySem.W.nsIn K mainGlobals x = some none
  | _, .nil, x, h => by cases h
  | _, .cons a b, x, h => by
    rcases List.mem_cons.mp h with rfl | h
    · exact a
    · exact b.get x h
inductive AllN (K : PySem.W.Frag) (C : Addr) : List Str → Prop
  | nil : AllN K C []
  | cons {f : Str} {fl : List Str} : PySem.W.findIn K (.ref C) f = some none → AllN K C fl → AllN K C (f :: fl)
theorem AllN.get {K : PySem.W.Frag} {C : Addr} : ∀ {fl : List Str}, AllN K C fl → ∀ f ∈ fl, NoAttr K C f
  | _, .nil, f, h => by cases h
  | _, .cons a b, f, h => by
    rcases List.mem_cons.mp h with rfl | h
    · exact a
    · exact b.get f h
theorem clsF {K : PySem.W.Frag} {fl : List Str} {C : Addr} (pg : PySem.W.plainGet K C Str.empty = true) (hd : PySem.W.hasDictIn K C = true) (po : PySem.W.plainOver K C = true) (sa : PySem.W.findIn K (.ref C) "__setattr__" = some (some (.builtin "object.__setattr__"))) (na : AllN K C fl)
    (k1 : PySem.W.kitOne K (.type "NoneType") (.ref C) = some false) (k2 : PySem.W.kitOne K (.type "bool") (.ref C) = some false) (k3 : PySem.W.kitOne K (.type "int") (.ref C) = some false) (k4 : PySem.W.kitOne K (.type "str") (.ref C) = some false) (k5 : PySem.W.kitOne K (.type "list") (.ref C) = some false) (k6 : PySem.W.kitOne K (.type "tuple") (.ref C) = some false) (k7 : PySem.W.kitOne K (.type "dict") (.ref C) = some false)
    (ha : PySem.W.findIn K (.ref C) "__class__" = some (some (.builtin "object.__class__"))) (hn : PySem.W.specialIn K (.builtin "object.__class__") "__get__" = some (some (.builtin "getset_descriptor.__get__"))) (htk : PySem.W.takesIn K (.builtin "object.__class__") = some true) (hm : PySem.W.mroIn K C (.type "object") = some true) : ClsF K fl C :=
  ⟨⟨pg, hd, po, sa⟩, na.get, fun T hT => by
    simp only [List.mem_cons, List.not_mem_nil, or_false] at hT
    rcases hT with rfl | rfl | rfl | rfl | rfl | rfl | rfl
    · exact k1
    · exact k2
    · exact k3
    · exact k4
    · exact k5
    · exact k6
    · exact k7, ha, hn, htk, hm⟩
inductive AllK (K : PySem.W.Frag) (fl : List Str) : List (Str × Addr) → Prop
  | nil : AllK K fl []
  | cons {c : Str} {C : Addr} {l : List (Str × Addr)} : PySem.W.nsIn K mainGlobals c = some (some (.ref C)) → ClsF K fl C → AllK K fl l → AllK K fl ((c, C) :: l)
inductive K2r (K : PySem.W.Frag) (c : Str) (C : Addr) : List (Str × Addr) → Prop
  | nil : K2r K c C []
  | cons {c' : Str} {C' : Addr} {l : List (Str × Addr)} : PySem.W.kitOne K (.ref C') (.ref C) = some (decide (c' = c)) → K2r K c C l → K2r K c C ((c', C') :: l)
inductive K2 (K : PySem.W.Frag) (L : List (Str × Addr)) : List (Str × Addr) → Prop
  | nil : K2 K L []
  | cons {c : Str} {C : Addr} {l : List (Str × Addr)} : K2r K c C L → K2 K L l → K2 K L ((c, C) :: l)
theorem AllK.get {K : PySem.W.Frag} {fl : List Str} : ∀ {l : List (Str × Addr)}, AllK K fl l → ∀ p ∈ l, PySem.W.nsIn K mainGlobals p.1 = some (some (.ref p.2)) ∧ ClsF K fl p.2
  | _, .nil, p, h => by cases h
  | _, .cons a b d, p, h => by
    rcases List.mem_cons.mp h with rfl | h
    · exact ⟨a, b⟩
    · exact d.get p h
theorem K2r.get {K : PySem.W.Frag} {c : Str} {C : Addr} : ∀ {l : List (Str × Addr)}, K2r K c C l → ∀ p ∈ l, PySem.W.kitOne K (.ref p.2) (.ref C) = some (decide (p.1 = c))
  | _, .nil, p, h => by cases h
  | _, .cons a d, p, h => by
    rcases List.mem_cons.mp h with rfl | h
    · exact a
    · exact d.get p h
theorem K2.get {K : PySem.W.Frag} {L : List (Str × Addr)} : ∀ {l : List (Str × Addr)}, K2 K L l → ∀ p ∈ l, K2r K p.1 p.2 L
  | _, .nil, p, h => by cases h
  | _, .cons a d, p, h => by
    rcases List.mem_cons.mp h with rfl | h
    · exact a
    · exact d.get p h
theorem dyn_mk {K : PySem.W.Frag} {mg : Str → Option Value} {h : Heap} {is : List (Nat × FnI)} {D : Ds} {gc : Nat → Option Tr} {L : List (Str × Addr)} (X : K.In h) (G : h.Ns mainGlobals mg) (hL : L.map (·.1) = D.cl) (hf : AllF K is) (hc : AllC K gc D.gls) (hb : AllB K D.blts) (hk : AllK K D.fl L) (h2 : K2 K L L) : Dyn K mg is D gc := by
  have cl : ∀ c ∈ D.cl, ∃ C, (c, C) ∈ L := fun c hc => by
    rw [← hL] at hc
    obtain ⟨⟨c', C⟩, h1, h2⟩ := List.mem_map.mp hc
    cases h2
    exact ⟨C, h1⟩
  refine ⟨fun f I e => ?_, fun k t x e1 e2 => ?_, fun c hc => ?_, fun c hc c' hc' C C' e e' => ?_, fun x hx => PySem.W.mg_none_of X G (hb.get x hx)⟩
  · obtain ⟨fa, fd, q1, q2, q3⟩ := (hf.get f I e).ex
    refine ⟨fa, fd, q1, fun hc => PySem.W.mg_of X G (q2 hc), fun c hc => ?_⟩
    obtain ⟨C, q4, q5⟩ := q3 c hc
    exact ⟨C, PySem.W.mg_of X G q4, q5⟩
  · obtain ⟨u, q1, q2⟩ := hc.get k t x e1 e2
    obtain ⟨v, r1, r2⟩ := okV_ok t u q2
    exact ⟨v, u, PySem.W.mg_of X G q1, r1, fun P w => r2 ⟨P, w, K, mg, D.cl⟩ _ _ rfl⟩
  · obtain ⟨C, hC⟩ := cl c hc
    obtain ⟨q1, q2⟩ := hk.get _ hC
    exact ⟨C, PySem.W.mg_of X G q1, q2⟩
  · obtain ⟨C1, hC1⟩ := cl c hc
    obtain ⟨C2, hC2⟩ := cl c' hc'
    have z1 := PySem.W.mg_of X G (hk.get _ hC1).1
    have z2 := PySem.W.mg_of X G (hk.get _ hC2).1
    rw [e] at z1
    rw [e'] at z2
    cases z1
    cases z2
    exact (h2.get _ hC1).get _ hC2
end Ev
/-! Plain facts of the evaluator. -/
namespace Ev
open PySem L2
theorem callS {gc : Nat → Option Tr} {wf : Nat} {fs : Nat → Option Fn} {d f : Nat} {fn : Fn} {ts : List Tr} {m : List Ob} (h : fs f = some fn) (hc : fn.cls = none) (hl : ts.length = fn.par) :
    callF gc wf fs (d + 1) f ts m = done (exSs gc (callF gc wf fs d) wf fn.body ⟨ts.map Slot.val ++ List.replicate (fn.loc - ts.length) Slot.none, m⟩) := by
  simp only [callF, h, hl, hc, if_true]
theorem callC {gc : Nat → Option Tr} {wf : Nat} {fs : Nat → Option Fn} {d f : Nat} {fn : Fn} {c : Str} {ts : List Tr} {m : List Ob} (h : fs f = some fn) (hc : fn.cls = some c) (hl : ts.length + 1 = fn.par) :
    callF gc wf fs (d + 2) f ts m = doneC m.length (exSs gc (callF gc wf fs d) wf fn.body ⟨(Tr.ob m.length :: ts).map Slot.val ++ List.replicate (fn.loc - (ts.length + 1)) Slot.none, m ++ [.ins c [] []]⟩) := by
  simp only [callF, h, hl, hc, if_true]
@[simp] theorem Rs.of_some {α : Type} {a : α} {s : Sta} : Rs.of (some a) s = .ok a s := rfl
theorem compGo_map {f : Tr → List Ob → Option (Option Tr × List Ob)} {g : Tr → Option Tr} {m : List Ob} : ∀ {xs acc : List Tr}, (∀ x ∈ xs, f x m = some (g x, m)) → acc.length + xs.length ≤ sizeLine → compGo f xs m acc = some (acc ++ xs.filterMap g, m)
  | [], acc, _, _ => by simp [compGo]
  | x :: xs, acc, h, hl => by
    rw [List.length_cons] at hl
    have h1 := h x (by simp)
    have h2 : ∀ y ∈ xs, f y m = some (g y, m) := fun y hy => h y (by simp [hy])
    simp only [compGo, h1]
    cases e : g x with
    | none =>
      dsimp only
      rw [compGo_map h2 (by omega)]
      simp [e]
    | some y =>
      dsimp only
      rw [if_pos (by omega), compGo_map h2 (by simp; omega)]
      simp [e]
@[simp] theorem boolsT : ∀ (n : Nat), boolsOf (List.replicate n (Tr.bl true)) = some (List.replicate n true)
  | 0 => rfl
  | n + 1 => by
    rw [List.replicate_succ, List.replicate_succ]
    simp only [boolsOf, boolsT n]
theorem fm_rep {g : Tr → Option Tr} {t : Tr} : ∀ {xs : List Tr}, (∀ x ∈ xs, g x = some t) → xs.filterMap g = List.replicate xs.length t
  | [], _ => rfl
  | x :: xs, h => by
    rw [List.filterMap_cons, h x (by simp), fm_rep fun y hy => h y (by simp [hy])]
    rfl
theorem allT (n : Nat) : biT .all [.lst (List.replicate n (.bl true))] = some (.bl true) := by
  simp only [biT, boolsT, Option.map_some]
  congr 2
  induction n with
  | zero => rfl
  | succ n ih => rw [List.replicate_succ, List.all_cons, ih]; rfl
/-- a comprehension of Trues -/
theorem comp_true {f : Tr → List Ob → Option (Option Tr × List Ob)} {m : List Ob} {xs : List Tr} (h : ∀ x ∈ xs, f x m = some (some (.bl true), m)) (hl : xs.length ≤ sizeLine) : compGo f xs m [] = some (List.replicate xs.length (.bl true), m) := by
  rw [compGo_map (g := fun _ => some (.bl true)) h (by simpa using hl), fm_rep (t := .bl true) (fun _ _ => rfl)]
  rfl
/-! ### what can be compared -/
mutual
def gd : Nat → Tr → Bool
  | _, .int _ => true
  | _, .str z => PyData.strOk z
  | 0, _ => false
  | n + 1, .tup l => gds n l
  | n + 1, .lst l => gds n l
  | _, _ => false
def gds : Nat → List Tr → Bool
  | _, [] => true
  | n, t :: l => gd n t && gds n l
end
mutual
theorem gd_data : ∀ (n : Nat) (t : Tr), gd n t = true → ∃ d, t.data = some d ∧ d.canLay0 = true ∧ d.depth ≤ n
  | n, .int i, h => ⟨.int i, by simp only [Tr.data], by simp only [PyData.canLay0], by simp [PyData.depth]⟩
  | n, .str z, h => ⟨.str z, by simp only [Tr.data], by cases n <;> simpa only [PyData.canLay0, gd] using h, by simp [PyData.depth]⟩
  | 0, .tup l, h => by simp [gd] at h
  | 0, .lst l, h => by simp [gd] at h
  | n + 1, .tup l, h => by
    simp only [gd] at h
    obtain ⟨ds, h1, h2, h3⟩ := gds_data n l h
    exact ⟨.tuple ds, by simp only [Tr.data, h1], by simpa only [PyData.canLay0] using h2, by simp only [PyData.depth]; omega⟩
  | n + 1, .lst l, h => by
    simp only [gd] at h
    obtain ⟨ds, h1, h2, h3⟩ := gds_data n l h
    exact ⟨.list ds, by simp only [Tr.data, h1], by simpa only [PyData.canLay0] using h2, by simp only [PyData.depth]; omega⟩
  | n, .non, h => by cases n <;> simp [gd] at h
  | n, .bl b, h => by cases n <;> simp [gd] at h
  | n, .flst l, h => by cases n <;> simp [gd] at h
  | n, .ob b, h => by cases n <;> simp [gd] at h
  | n, .bor b, h => by cases n <;> simp [gd] at h
  | n, .dk _ _, h => by cases n <;> simp [gd] at h
  | n, .dt _ _, h => by cases n <;> simp [gd] at h
  | n, .ins _ _ _, h => by cases n <;> simp [gd] at h
theorem gds_data : ∀ (n : Nat) (l : List Tr), gds n l = true → ∃ ds, datas l = some ds ∧ PyData.canLayAll0 ds = true ∧ PyData.depthAll ds ≤ n
  | n, [], h => ⟨[], by simp only [datas], by simp only [PyData.canLayAll0], by simp [PyData.depthAll]⟩
  | n, t :: l, h => by
    simp only [gds, Bool.and_eq_true] at h
    obtain ⟨d, h1, h2, h3⟩ := gd_data n t h.1
    obtain ⟨ds, h4, h5, h6⟩ := gds_data n l h.2
    exact ⟨d :: ds, by simp only [datas, h1, h4], by simp only [PyData.canLayAll0, h2, h5]; rfl, by simp only [PyData.depthAll]; omega⟩
end
theorem gds_iff {n : Nat} : ∀ {l : List Tr}, gds n l = true ↔ ∀ t ∈ l, gd n t = true
  | [] => by simp [gds]
  | t :: l => by simp only [gds, Bool.and_eq_true, gds_iff (l := l)]; simp
theorem shaped_of {n : Nat} {d : PyData} (h1 : d.canLay0 = true) (h2 : d.depth ≤ n) (h : n ≤ 64) : SeqAt.shaped d = true := by
  unfold SeqAt.shaped
  rw [h1]
  simp
  omega
theorem eqD_nil {n : Nat} {l : List Tr} (h : gds n l = true) (hn : n < 64) : eqT (.lst l) (.lst []) = some l.isEmpty := by
  obtain ⟨ds, h1, h2, h3⟩ := gds_data n l h
  have s1 : SeqAt.shaped (.list ds) = true := shaped_of (n := n + 1) (by simpa only [PyData.canLay0] using h2) (by simp only [PyData.depth]; omega) (by omega)
  have s2 : SeqAt.shaped (.list []) = true := by decide
  have e : PyData.eqv (.list ds) (.list []) = l.isEmpty := by
    cases l with
    | nil => simp only [datas] at h1; cases h1; rfl
    | cons t l =>
      simp only [datas] at h1
      split at h1
      · cases h1; rfl
      · cases h1
  show eqD _ _ = _
  unfold eqD
  simp only [Tr.data, h1, datas, s1, s2, e]
  rfl
theorem eqT_pair (a b c d : Int) : eqT (.tup [.int a, .int b]) (.tup [.int c, .int d]) = some (decide ((a, b) = (c, d))) := by
  simp [eqT, eqD, Tr.data, datas, SeqAt.shaped, PyData.canLay0, PyData.canLayAll0, PyData.depth, PyData.depthAll, PyData.eqv, PyData.eqvAll]
  rw [Bool.eq_iff_iff]
  simp
/-! ### operators at numbers -/
def Lil (i : Int) : Prop := i.natAbs.log2 < 400000
theorem log2_le_of {a k : Nat} (hk : 0 < k) (h : a < 2 ^ k) : a.log2 < k := by
  by_cases z : a = 0
  · subst z; simpa using hk
  · exact (Nat.log2_lt z).mpr h
theorem Lil.of {i : Int} (k : Nat) (hk : 0 < k) (hk2 : k ≤ 400000) (h : i.natAbs < 2 ^ k) : Lil i := Nat.lt_of_lt_of_le (log2_le_of hk h) hk2
theorem Lil.of64 {i : Int} (h1 : -9223372036854775808 < i) (h2 : i < 9223372036854775808) : Lil i := Lil.of 63 (by omega) (by omega) (by omega)
@[simp] theorem opB_add (i j : Int) : opB .add (.int i) (.int j) = some (.int (i + j)) := rfl
@[simp] theorem opB_sub (i j : Int) : opB .sub (.int i) (.int j) = some (.int (i - j)) := rfl
theorem opB_mul {i j : Int} (hi : Lil i) (hj : Lil j) : opB .mul (.int i) (.int j) = some (.int (i * j)) := by
  simp only [opB]
  exact if_pos (by unfold Lil at hi hj; omega)
theorem opB_mod {i j : Int} (h : 0 < j) : opB .mod (.int i) (.int j) = some (.int (i % j)) := by
  simp only [opB]
  exact if_pos h
theorem opB_fdiv {i j : Int} (h : 0 < j) (h2 : j < 1152921504606846976) : opB .fdiv (.int i) (.int j) = some (.int (i / j)) := by
  simp only [opB]
  exact if_pos ⟨h, Nat.lt_trans (log2_le_of (k := 60) (by omega) (by omega)) (by omega)⟩
theorem opB_pow {i j : Int} (h : 0 ≤ j) (h2 : (Builtin.Int.intBits i : Int) * j ≤ 2 ^ 27) : opB .pow (.int i) (.int j) = some (.int (i ^ j.toNat)) := by
  simp only [opB]
  exact if_pos ⟨h, h2⟩
theorem opB_cube {i : Int} (h1 : -9223372036854775808 < i) (h2 : i < 1267650600228229401496703205376) : opB .pow (.int i) (.int 3) = some (.int (i ^ 3)) := by
  refine opB_pow (by omega) ?_
  have : Builtin.Int.intBits i ≤ 101 := by
    unfold Builtin.Int.intBits
    split
    · omega
    · have := log2_le_of (a := i.natAbs) (k := 100) (by omega) (by omega)
      omega
  omega
theorem opB_addS {a b : Str} (h : a.length + b.length ≤ sizeLine) : opB .add (.str a) (.str b) = some (.str (a ++ b)) := by
  simp only [opB]
  exact if_pos h
theorem opB_addT {a b : List Tr} (h : a.length + b.length ≤ sizeLine) : opB .add (.tup a) (.tup b) = some (.tup (a ++ b)) := by
  simp only [opB]
  exact if_pos h
theorem opB_addL {a b : List Tr} (h : a.length + b.length ≤ sizeLine) : opB .add (.lst a) (.lst b) = some (.lst (a ++ b)) := by
  simp only [opB]
  exact if_pos h
theorem opC2_of {o : Cp} {x y : Tr} (h1 : x.pure = true) (h2 : y.pure = true) : opC2 o x y = opC o x y := by
  unfold opC2
  rw [h1, h2]
  rfl
@[simp] theorem opC2_lt (i j : Int) : opC2 .lt (.int i) (.int j) = some (decide (i < j)) := rfl
@[simp] theorem opC2_le (i j : Int) : opC2 .le (.int i) (.int j) = some (decide (i ≤ j)) := rfl
@[simp] theorem opC2_gt (i j : Int) : opC2 .gt (.int i) (.int j) = some (decide (j < i)) := rfl
@[simp] theorem opC2_ge (i j : Int) : opC2 .ge (.int i) (.int j) = some (decide (j ≤ i)) := rfl
@[simp] theorem opC2_eqI (i j : Int) : opC2 .eq (.int i) (.int j) = some (decide (i = j)) := rfl
@[simp] theorem opC2_neI (i j : Int) : opC2 .ne (.int i) (.int j) = some (!decide (i = j)) := rfl
@[simp] theorem opC2_eqS (i j : Str) : opC2 .eq (.str i) (.str j) = some (decide (i = j)) := rfl
@[simp] theorem opC2_neS (i j : Str) : opC2 .ne (.str i) (.str j) = some (!decide (i = j)) := rfl
@[simp] theorem opC2_eqT (i j : List Tr) : opC2 .eq (.tup i) (.tup j) = eqT (.tup i) (.tup j) := rfl
@[simp] theorem opC2_neT (i j : List Tr) : opC2 .ne (.tup i) (.tup j) = (eqT (.tup i) (.tup j)).map (!·) := rfl
@[simp] theorem opC2_eqL (i j : List Tr) : opC2 .eq (.lst i) (.lst j) = eqT (.lst i) (.lst j) := rfl
@[simp] theorem opC2_neL (i j : List Tr) : opC2 .ne (.lst i) (.lst j) = (eqT (.lst i) (.lst j)).map (!·) := rfl
@[simp] theorem opC2_isN : opC2 .isN .non .non = some true := rfl
@[simp] theorem opC2_isNI (i : Int) : opC2 .isN (.int i) .non = some false := rfl
@[simp] theorem opC2_inT (x : Str) (l : List Tr) : opC2 .inn (.str x) (.tup l) = inT (.str x) (.tup l) := rfl
@[simp] theorem opC2_ninT (x : Str) (l : List Tr) : opC2 .nin (.str x) (.tup l) = (inT (.str x) (.tup l)).map (!·) := rfl
@[simp] theorem done_ret (t : Tr) (s : Sta) : done (.ok (.ret t) s) = some (t, s.mem) := rfl
@[simp] theorem done_next (s : Sta) : done (.ok .next s) = some (.non, s.mem) := rfl
@[simp] theorem sizeLine_eq : sizeLine = 16777216 := rfl
theorem set_get {α : Type} {l : List α} {n : Nat} {x y : α} (h : l[n]? = some y) : (l.set n x)[n]? = some x := by
  rw [List.getElem?_set_self (List.getElem?_eq_some_iff.mp h).1]
theorem atI_nat {α : Type} (l : List α) (n : Nat) : atI l (n : Int) = l[n]? := by
  unfold atI ixN
  by_cases h : n < l.length
  · simp [h]
  · have e : l[n]? = none := List.getElem?_eq_none (by omega)
    simp [h, e]
theorem atI_m1 {α : Type} (l : List α) : atI l (-1) = l.getLast? := by
  unfold atI ixN
  cases l with
  | nil => rfl
  | cons a l =>
    have e : (-1 + ((a :: l).length : Int)).toNat = l.length := by rw [List.length_cons]; omega
    rw [if_neg (by omega), if_pos (by rw [List.length_cons]; omega), e, List.getLast?_eq_getElem?]
    rfl
@[simp] theorem idxT_tm (l : List Tr) : idxT (.tup l) (.int (-1)) = l.getLast? := atI_m1 l
@[simp] theorem idxT_lm (l : List Tr) : idxT (.lst l) (.int (-1)) = l.getLast? := atI_m1 l
@[simp] theorem idxT_t0 (l : List Tr) : idxT (.tup l) (.int 0) = l[0]? := atI_nat l 0
@[simp] theorem idxT_l0 (l : List Tr) : idxT (.lst l) (.int 0) = l[0]? := atI_nat l 0
@[simp] theorem idxT_t1 (l : List Tr) : idxT (.tup l) (.int 1) = l[1]? := atI_nat l 1
@[simp] theorem idxT_l1 (l : List Tr) : idxT (.lst l) (.int 1) = l[1]? := atI_nat l 1
@[simp] theorem idxT_t2 (l : List Tr) : idxT (.tup l) (.int 2) = l[2]? := atI_nat l 2
@[simp] theorem idxT_l2 (l : List Tr) : idxT (.lst l) (.int 2) = l[2]? := atI_nat l 2
@[simp] theorem idxT_t3 (l : List Tr) : idxT (.tup l) (.int 3) = l[3]? := atI_nat l 3
@[simp] theorem idxT_l3 (l : List Tr) : idxT (.lst l) (.int 3) = l[3]? := atI_nat l 3
@[simp] theorem idxT_t4 (l : List Tr) : idxT (.tup l) (.int 4) = l[4]? := atI_nat l 4
@[simp] theorem idxT_l4 (l : List Tr) : idxT (.lst l) (.int 4) = l[4]? := atI_nat l 4
@[simp] theorem idxT_t5 (l : List Tr) : idxT (.tup l) (.int 5) = l[5]? := atI_nat l 5
@[simp] theorem idxT_l5 (l : List Tr) : idxT (.lst l) (.int 5) = l[5]? := atI_nat l 5
@[simp] theorem p_non : Tr.pure .non = true := rfl
@[simp] theorem p_bl (x : Bool) : Tr.pure (.bl x) = true := rfl
@[simp] theorem d_bl (s : Sta) (x : Bool) : s.deref (.bl x) = .bl x := rfl
@[simp] theorem p_int (x : Int) : Tr.pure (.int x) = true := rfl
@[simp] theorem d_int (s : Sta) (x : Int) : s.deref (.int x) = .int x := rfl
@[simp] theorem p_str (x : Str) : Tr.pure (.str x) = true := rfl
@[simp] theorem d_str (s : Sta) (x : Str) : s.deref (.str x) = .str x := rfl
@[simp] theorem p_tup (x : List Tr) : Tr.pure (.tup x) = true := rfl
@[simp] theorem d_tup (s : Sta) (x : List Tr) : s.deref (.tup x) = .tup x := rfl
@[simp] theorem p_lst (x : List Tr) : Tr.pure (.lst x) = true := rfl
@[simp] theorem d_lst (s : Sta) (x : List Tr) : s.deref (.lst x) = .lst x := rfl
@[simp] theorem p_flst (x : List Tr) : Tr.pure (.flst x) = true := rfl
@[simp] theorem d_flst (s : Sta) (x : List Tr) : s.deref (.flst x) = .flst x := rfl
@[simp] theorem p_ob (x : Nat) : Tr.pure (.ob x) = true := rfl
@[simp] theorem d_ob (s : Sta) (x : Nat) : s.deref (.ob x) = .ob x := rfl
@[simp] theorem d_non (s : Sta) : s.deref .non = .non := rfl
@[simp] theorem p_bor (i : Nat) : Tr.pure (.bor i) = false := rfl
theorem d_own {s : Sta} {i : Nat} {o : Ob} (h : s.env[i]? = some (.own o)) : s.deref (.bor i) = o.tr := by simp only [Sta.deref, h]
@[simp] theorem p_dk (x : List Key) (y : List Tr) : Tr.pure (.dk x y) = true := rfl
@[simp] theorem d_dk (s : Sta) (x : List Key) (y : List Tr) : s.deref (.dk x y) = .dk x y := rfl
@[simp] theorem p_dt (x : List (List Key)) (y : List Tr) : Tr.pure (.dt x y) = true := rfl
@[simp] theorem d_dt (s : Sta) (x : List (List Key)) (y : List Tr) : s.deref (.dt x y) = .dt x y := rfl
@[simp] theorem p_ins (c : Str) (x : List Str) (y : List Tr) : Tr.pure (.ins c x y) = true := rfl
@[simp] theorem d_ins (s : Sta) (c : Str) (x : List Str) (y : List Tr) : s.deref (.ins c x y) = .ins c x y := rfl
@[simp] theorem o_lst (l : List Tr) : Ob.tr (.lst l) = .lst l := rfl
@[simp] theorem o_dk (x : List Key) (y : List Tr) : Ob.tr (.dk x y) = .dk x y := rfl
@[simp] theorem o_dt (x : List (List Key)) (y : List Tr) : Ob.tr (.dt x y) = .dt x y := rfl
theorem doneC_next (n : Nat) (s : Sta) : doneC n (.ok .next s) = match s.mem[n]? with
    | some (.ins c ns l) => some (.ins c ns l, s.mem.set n .gone)
    | _ => none := rfl
@[simp] theorem isC_ins (c d : Str) (x : List Str) (y : List Tr) : isCT c (.ins d x y) = some (.bl (decide (d = c))) := rfl
@[simp] theorem b_lenT (l : List Tr) : biT .len [.tup l] = some (.int l.length) := rfl
@[simp] theorem b_lenL (l : List Tr) : biT .len [.lst l] = some (.int l.length) := rfl
@[simp] theorem b_lenF (l : List Tr) : biT .len [.flst l] = some (.int l.length) := rfl
@[simp] theorem b_lenD (l : List Key) (v : List Tr) : biT .len [.dk l v] = some (.int l.length) := rfl
@[simp] theorem b_abs (i : Int) : biT .abs [.int i] = some (.int (if i < 0 then -i else i)) := rfl
@[simp] theorem b_intI (i : Int) : biT .int [.int i] = some (.int i) := rfl
@[simp] theorem b_intB (k : Bool) : biT .int [.bl k] = some (.int (if k then 1 else 0)) := rfl
@[simp] theorem b_max2 (i j : Int) : biT .max2 [.int i, .int j] = some (.int (if j > i then j else i)) := rfl
@[simp] theorem b_min2 (i j : Int) : biT .min2 [.int i, .int j] = some (.int (if j < i then j else i)) := rfl
@[simp] theorem b_listT (l : List Tr) : biT .listOf [.tup l] = some (.lst l) := rfl
@[simp] theorem b_listL (l : List Tr) : biT .listOf [.lst l] = some (.lst l) := rfl
@[simp] theorem b_tupT (l : List Tr) : biT .tupOf [.tup l] = some (.tup l) := rfl
@[simp] theorem b_tupL (l : List Tr) : biT .tupOf [.lst l] = some (.tup l) := rfl
@[simp] theorem b_all (l : List Tr) : biT .all [.lst l] = (boolsOf l).map fun bs => .bl (bs.all id) := rfl
@[simp] theorem b_any (l : List Tr) : biT .any [.lst l] = (boolsOf l).map fun bs => .bl (bs.any id) := rfl
@[simp] theorem b_isIntI (i : Int) : biT .isInt [.int i] = some (.bl true) := rfl
@[simp] theorem b_isIntT (l : List Tr) : biT .isInt [.tup l] = some (.bl false) := rfl
@[simp] theorem b_isIntS (l : Str) : biT .isInt [.str l] = some (.bl false) := rfl
@[simp] theorem b_isIntN : biT .isInt [.non] = some (.bl false) := rfl
@[simp] theorem b_isBoolI (i : Int) : biT .isBool [.int i] = some (.bl false) := rfl
@[simp] theorem b_isStrS (x : Str) : biT .isStr [.str x] = some (.bl true) := rfl
@[simp] theorem b_isStrI (x : Int) : biT .isStr [.int x] = some (.bl false) := rfl
@[simp] theorem b_isStrT (x : List Tr) : biT .isStr [.tup x] = some (.bl false) := rfl
@[simp] theorem b_isTupT (x : List Tr) : biT .isTup [.tup x] = some (.bl true) := rfl
@[simp] theorem b_strI {i : Int} (h : i.natAbs.log2 < 1920) : biT .strOf [.int i] = some (.str (toString i)) := if_pos h
@[simp] theorem b_lenS {x : Str} (h : x.length ≤ sizeLine) : biT .len [.str x] = some (.int x.length) := if_pos h
@[simp] theorem opC2_notN : opC2 .notN .non .non = some false := rfl
@[simp] theorem opC2_notNI (i : Int) : opC2 .notN (.int i) .non = some true := rfl
@[simp] theorem opC2_notNT (i : List Tr) : opC2 .notN (.tup i) .non = some true := rfl
@[simp] theorem opC2_isNT (i : List Tr) : opC2 .isN (.tup i) .non = some false := rfl
@[simp] theorem opC2_isNS (i : Str) : opC2 .isN (.str i) .non = some false := rfl
@[simp] theorem rbind_ok {α β : Type} (a : α) (s : Sta) (f : α → Sta → Rs β) : (Rs.ok a s).bind f = f a s := rfl
@[simp] theorem rbind_no {α β : Type} (f : α → Sta → Rs β) : (Rs.no : Rs α).bind f = .no := rfl
@[simp] theorem truth_bl (b : Bool) : truth (.bl b) = some b := rfl
@[simp] theorem truth_non : truth .non = some false := rfl
@[simp] theorem truth_int (b : Int) : truth (.int b) = some (b != 0) := rfl
@[simp] theorem truth_tup (b : List Tr) : truth (.tup b) = some !b.isEmpty := rfl
@[simp] theorem truth_lst (b : List Tr) : truth (.lst b) = some !b.isEmpty := rfl
@[simp] theorem seqT_t (b : List Tr) : seqT (.tup b) = some b := rfl
@[simp] theorem seqT_l (b : List Tr) : seqT (.lst b) = some b := rfl
@[simp] theorem seqT_f (b : List Tr) : seqT (.flst b) = some b := rfl
theorem d_pure {s : Sta} {t : Tr} (h : t.pure = true) : s.deref t = t := by cases t <;> first | rfl | cases h
@[simp] theorem allRep (n : Nat) : (List.replicate n true).all id = true := by
  induction n with
  | zero => rfl
  | succ n ih => rw [List.replicate_succ, List.all_cons, ih]; rfl
theorem flat_rep {α : Type} (t : α) : ∀ n : Nat, (List.replicate n [t]).flatten = List.replicate n t
  | 0 => rfl
  | n + 1 => by rw [List.replicate_succ, List.flatten_cons, flat_rep t n]; rfl
theorem opB_rep {t : Tr} {k : Int} (h : k.natAbs ≤ 1000) : opB .mul (.lst [t]) (.int (if k < 0 then -k else k)) = some (.lst (List.replicate k.natAbs t)) := by
  have e : (if k < 0 then -k else k) = (k.natAbs : Int) := by split <;> omega
  rw [e]
  simp only [opB, Int.toNat_natCast, flat_rep]
  exact if_pos ⟨by omega, by omega, by rw [sizeLine_eq]; simp; omega⟩
theorem eqT_int (a b : Int) : eqT (.int a) (.int b) = some (decide (a = b)) := rfl
theorem eqT_str (a b : Str) : eqT (.str a) (.str b) = some (decide (a = b)) := rfl
end Ev
/-! The evaluator with its continuations named, for stepwise evaluation. -/
namespace Ev
open PySem L2
section
variable (gc : Nat → Option Tr) (cf : CF)
def kTruth (x : Tr) (s1 : Sta) : Rs Tr := Rs.of ((truth (s1.deref x)).map Tr.bl) s1
@[simp] def kVar (i : Nat) (s : Sta) : Option Slot → Rs Tr
  | some (.val t) => .ok t s
  | some (.own _) => .ok (.bor i) s
  | _ => .no
@[simp] def kMv (i : Nat) (s : Sta) : Option Slot → Rs Tr
  | some (.own o) => .ok o.tr ⟨s.env.set i (.val o.tr), s.mem⟩
  | _ => .no
@[simp] def kTup (ts : List Tr) (s1 : Sta) : Rs Tr := if ts.all Tr.pure && decide (ts.length ≤ sizeLine) then .ok (.tup ts) s1 else .no
@[simp] def kLst (ts : List Tr) (s1 : Sta) : Rs Tr := if ts.all Tr.pure && decide (ts.length ≤ sizeLine) then .ok (.lst ts) s1 else .no
@[simp] def kShd (ts : List Tr) (s1 : Sta) : Rs Tr := if ts.all Tr.pure && decide (ts.length ≤ sizeLine) then .ok (.ob s1.mem.length) ⟨s1.env, s1.mem ++ [.lst ts]⟩ else .no
@[simp] def kBin2 (o : Op) (x y : Tr) (s2 : Sta) : Rs Tr := Rs.of (opB o (s2.deref x) (s2.deref y)) s2
@[simp] def kBin1 (o : Op) (b : Ex) (x : Tr) (s1 : Sta) : Rs Tr := (evX gc cf b false s1).bind (kBin2 o x)
@[simp] def kNeg (x : Tr) (s1 : Sta) : Rs Tr := match x with
  | .int i => .ok (.int (-i)) s1
  | _ => .no
@[simp] def kCmp2 (o : Cp) (x y : Tr) (s2 : Sta) : Rs Tr := Rs.of ((opC2 o (s2.deref x) (s2.deref y)).map Tr.bl) s2
@[simp] def kCmp1 (o : Cp) (b : Ex) (x : Tr) (s1 : Sta) : Rs Tr := (evX gc cf b false s1).bind (kCmp2 o x)
@[simp] def kChain3 (p : Cp) (y z : Tr) (s3 : Sta) : Rs Tr := Rs.of ((opC2 p (s3.deref y) (s3.deref z)).map Tr.bl) s3
@[simp] def kChain2' (p : Cp) (c : Ex) (y : Tr) (s2 : Sta) : Option Bool → Rs Tr
  | some true => (evX gc cf c false s2).bind (kChain3 p y)
  | some false => .ok (.bl false) s2
  | none => .no
@[simp] def kChain2 (o p : Cp) (c : Ex) (x y : Tr) (s2 : Sta) : Rs Tr := kChain2' gc cf p c y s2 (opC2 o (s2.deref x) (s2.deref y))
@[simp] def kChain1 (o p : Cp) (b c : Ex) (x : Tr) (s1 : Sta) : Rs Tr := (evX gc cf b false s1).bind (kChain2 gc cf o p c x)
@[simp] def kAnd (b : Ex) (md : Bool) (x : Tr) (s1 : Sta) : Rs Tr := match x with
  | .bl true => evX gc cf b md s1
  | .bl false => .ok (.bl false) s1
  | _ => .no
@[simp] def kOr (b : Ex) (md : Bool) (x : Tr) (s1 : Sta) : Rs Tr := match x with
  | .bl false => evX gc cf b md s1
  | .bl true => .ok (.bl true) s1
  | _ => .no
@[simp] def kNot (x : Tr) (s1 : Sta) : Rs Tr := match x with
  | .bl b => .ok (.bl !b) s1
  | _ => .no
@[simp] def kIte (a b : Ex) (md : Bool) (x : Tr) (s1 : Sta) : Rs Tr := match x with
  | .bl true => evX gc cf a md s1
  | .bl false => evX gc cf b md s1
  | _ => .no
@[simp] def kIdxM (y : Tr) (s2 : Sta) : Option Ob → Rs Tr
  | some (.lst l) => Rs.of (idxT (.lst l) y) s2
  | _ => .no
@[simp] def kIdx3 (y : Tr) (s2 : Sta) (t : Tr) : Rs Tr := match t with
  | .ob n => kIdxM y s2 s2.mem[n]?
  | t => Rs.of (idxT t (s2.deref y)) s2
@[simp] def kIdx2 (x y : Tr) (s2 : Sta) : Rs Tr := kIdx3 y s2 (s2.deref x)
@[simp] def kIdx1 (b : Ex) (x : Tr) (s1 : Sta) : Rs Tr := (evX gc cf b false s1).bind (kIdx2 x)
@[simp] def kSl3 (x : Tr) (l h : Option Int) (s3 : Sta) : Rs Tr := Rs.of (slT (s3.deref x) l h) s3
@[simp] def kO (e : Ex) (s : Sta) : Rs (Option Int) := if isNul e then .ok none s else asInt (evX gc cf e false s)
@[simp] def kSl2 (hi : Ex) (x : Tr) (l : Option Int) (s2 : Sta) : Rs Tr := (kO gc cf hi s2).bind (kSl3 x l)
@[simp] def kSl1 (lo hi : Ex) (x : Tr) (s1 : Sta) : Rs Tr := (kO gc cf lo s1).bind (kSl2 gc cf hi x)
@[simp] def kRev (x : Tr) (s1 : Sta) : Rs Tr := match s1.deref x with
  | .lst l => .ok (.lst l.reverse) s1
  | .tup l => .ok (.tup l.reverse) s1
  | _ => .no
@[simp] def kRes (s1 : Sta) : Option (Tr × List Ob) → Rs Tr
  | some (t, m) => .ok t ⟨s1.env, m⟩
  | none => .no
@[simp] def kCall (f : Nat) (ts : List Tr) (s1 : Sta) : Rs Tr := if ts.all Tr.pure then kRes s1 (cf f ts s1.mem) else .no
@[simp] def kCallK2 (f : Nat) (ts us : List Tr) (s2 : Sta) : Rs Tr := if (ts ++ us).all Tr.pure then kRes s2 (cf f (ts ++ us) s2.mem) else .no
@[simp] def kCallK1 (f : Nat) (ks : List Ex) (ts : List Tr) (s1 : Sta) : Rs Tr := (evEs gc cf ks s1).bind (kCallK2 cf f ts)
@[simp] def kBi (b : Bi) (ts : List Tr) (s1 : Sta) : Rs Tr := if (ts.map s1.deref).all Tr.pure then Rs.of (biT b (ts.map s1.deref)) s1 else .no
@[simp] def kPop2 (i : Nat) (s : Sta) (l : List Tr) : Option Tr → Rs Tr
  | some t => .ok t ⟨s.env.set i (.own (.lst l.dropLast)), s.mem⟩
  | none => .no
@[simp] def kPop (i : Nat) (s : Sta) : Option Slot → Rs Tr
  | some (.own (.lst l)) => kPop2 i s l l.getLast?
  | _ => .no
@[simp] def kCallP2 (f : Nat) (ps : List Nat) (ts us : List Tr) (s2 : Sta) : Rs Tr := if (ts ++ us).all Tr.pure then kRes s2 (cf f (ts ++ ps.filterMap fun i => us[i]?) s2.mem) else .no
@[simp] def kCallP1 (f : Nat) (ks : List Ex) (ps : List Nat) (ts : List Tr) (s1 : Sta) : Rs Tr := (evEs gc cf ks s1).bind (kCallP2 cf f ps ts)
@[simp] def kOrV (b : Ex) (x : Tr) (s1 : Sta) : Option Bool → Rs Tr
  | some true => .ok x s1
  | some false => evX gc cf b false s1
  | none => .no
@[simp] def kOrV1 (b : Ex) (x : Tr) (s1 : Sta) : Rs Tr := kOrV gc cf b x s1 (truth (s1.deref x))
@[simp] def kFldM (f : Str) (s1 : Sta) : Option Ob → Rs Tr
  | some (.ins _ ns l) => Rs.of (getK f ns l) s1
  | _ => .no
@[simp] def kFld2 (f : Str) (s1 : Sta) : Tr → Rs Tr
  | .ins _ ns l => Rs.of (getK f ns l) s1
  | .ob n => kFldM f s1 s1.mem[n]?
  | _ => .no
@[simp] def kFld (f : Str) (x : Tr) (s1 : Sta) : Rs Tr := kFld2 f s1 (s1.deref x)
@[simp] def kIsC (c : Str) (x : Tr) (s1 : Sta) : Rs Tr := Rs.of (isCT c (s1.deref x)) s1
@[simp] def kDsp2 (s1 : Sta) : Option (List Key × List Tr) → Rs Tr
  | some (ks, vs) => if ks.Nodup ∧ ks.length ≤ 15 then .ok (.dk ks vs) s1 else .no
  | none => .no
@[simp] def kDsp (ts : List Tr) (s1 : Sta) : Rs Tr := if ts.all Tr.pure then kDsp2 s1 (dspT ts) else .no
@[simp] def kMeth2 (m : Mt) (x : Tr) (ts : List Tr) (s2 : Sta) : Rs Tr := if (s2.deref x).pure && (ts.map s2.deref).all Tr.pure then Rs.of (mtT m (s2.deref x) (ts.map s2.deref)) s2 else .no
@[simp] def kMeth (m : Mt) (es : List Ex) (x : Tr) (s1 : Sta) : Rs Tr := if recvOk m (s1.deref x) then (evEs gc cf es s1).bind (kMeth2 m x) else .no
@[simp] def kPA3 (i : Nat) (l : List Tr) (s1 : Sta) : Option Nat → Rs Tr
  | some j => if l.length ≤ sizeLine then Rs.of l[j]? ⟨s1.env.set i (.own (.lst (l.eraseIdx j))), s1.mem⟩ else .no
  | none => .no
@[simp] def kPA2 (i : Nat) (s1 : Sta) : Option Slot → Tr → Rs Tr
  | some (.own (.lst l)), .int k => kPA3 i l s1 (ixN l.length k)
  | _, _ => .no
@[simp] def kPA1 (i : Nat) (t : Tr) (s1 : Sta) : Rs Tr := kPA2 i s1 s1.env[i]? t
@[simp] def kPA (i : Nat) (e : Ex) (s : Sta) : Option Slot → Rs Tr
  | some (.own (.lst _)) => (evX gc cf e false s).bind (kPA1 i)
  | _ => .no
@[simp] def kComp3 (s1 : Sta) : Option (List Tr × List Ob) → Rs Tr
  | some (ys, m) => .ok (.lst ys) ⟨s1.env, m⟩
  | none => .no
@[simp] def kCond (cond : Ex) (s : Sta) : Rs Tr := if isNul cond then .ok (.bl true) s else evX gc cf cond true s
@[simp] def kElt (elt : Ex) (s : Sta) : Rs Tr := evX gc cf elt false s
@[simp] def kComp2 (elt : Ex) (tg : Tg) (cond : Ex) (own : List Nat) (s1 : Sta) : Option (List Tr) → Rs Tr
  | some xs => kComp3 s1 (compGo (compF tg (wipeE (s1.env.map Slot.lock) own) (kCond gc cf cond) (kElt gc cf elt)) xs s1.mem [])
  | none => .no
@[simp] def kComp (k : Nat) (elt : Ex) (tg : Tg) (cond : Ex) (own : List Nat) (vs : List Tr) (s1 : Sta) : Rs Tr := kComp2 gc cf elt tg cond own s1 (if (vs.map s1.deref).all Tr.pure then items k (vs.map s1.deref) else none)
@[simp] def kEs2 (t : Tr) (ts : List Tr) (s2 : Sta) : Rs (List Tr) := .ok (t :: ts) s2
@[simp] def kEs1 (es : List Ex) (t : Tr) (s1 : Sta) : Rs (List Tr) := (evEs gc cf es s1).bind (kEs2 t)
@[simp] def kSt2 (l ts : List Tr) (s2 : Sta) : Rs (List Tr) := .ok (l ++ ts) s2
@[simp] def kSt3 (es : List Ex) (bs : List Bool) (s1 : Sta) : Option (List Tr) → Rs (List Tr)
  | some l => (evSt gc cf es bs.tail s1).bind (kSt2 l)
  | none => .no
@[simp] def kSt1 (es : List Ex) (bs : List Bool) (t : Tr) (s1 : Sta) : Rs (List Tr) := if bs.headD false then kSt3 gc cf es bs s1 (seqT (s1.deref t)) else (evSt gc cf es bs.tail s1).bind (kEs2 t)
@[simp] def kDisp (k : Nat) (ts : List Tr) (s1 : Sta) : Rs Tr := if ts.all Tr.pure && decide (ts.length ≤ sizeLine) then (match k with
      | 0 => .ok (.tup ts) s1
      | 1 => .ok (.lst ts) s1
      | _ => .ok (.ob s1.mem.length) ⟨s1.env, s1.mem ++ [.lst ts]⟩) else .no
end
section
variable {gc : Nat → Option Tr} {cf : CF} {s : Sta} {e a b c : Ex} {es : List Ex}
@[simp] theorem q_var {i : Nat} : evX gc cf (.var i) false s = kVar i s s.env[i]? := by simp only [evX, fin]; rfl
@[simp] theorem q_mv {i : Nat} : evX gc cf (.mv i) false s = kMv i s s.env[i]? := by simp only [evX, fin]; rfl
@[simp] theorem q_gl {k : Nat} : evX gc cf (.gl k) false s = Rs.of (gc k) s := by simp only [evX, fin]
@[simp] theorem q_int {i : Int} : evX gc cf (.int i) false s = .ok (.int i) s := by simp only [evX, fin]
@[simp] theorem q_str {x : Str} : evX gc cf (.str x) false s = .ok (.str x) s := by simp only [evX, fin]
@[simp] theorem q_bl {x : Bool} : evX gc cf (.bl x) false s = .ok (.bl x) s := by simp only [evX, fin]
@[simp] theorem q_non : evX gc cf .non false s = .ok .non s := by simp only [evX, fin]
@[simp] theorem q_tup : evX gc cf (.tup es) false s = (evEs gc cf es s).bind kTup := by simp only [evX, fin]; rfl
@[simp] theorem q_lst : evX gc cf (.lst es) false s = (evEs gc cf es s).bind kLst := by simp only [evX, fin]; rfl
@[simp] theorem q_shd : evX gc cf (.shd es) false s = (evEs gc cf es s).bind kShd := by simp only [evX, fin]; rfl
@[simp] theorem q_disp {k : Nat} {bs : List Bool} : evX gc cf (.disp k bs es) false s = (evSt gc cf es bs s).bind (kDisp k) := by simp only [evX, fin]; rfl
@[simp] theorem q_bin {o : Op} : evX gc cf (.bin o a b) false s = (evX gc cf a false s).bind (kBin1 gc cf o b) := by simp only [evX, fin]; rfl
@[simp] theorem q_neg : evX gc cf (.neg a) false s = (evX gc cf a false s).bind kNeg := by simp only [evX, fin]; rfl
@[simp] theorem q_cmp {o : Cp} : evX gc cf (.cmp o a b) false s = (evX gc cf a false s).bind (kCmp1 gc cf o b) := by simp only [evX, fin]; rfl
@[simp] theorem q_chain {o p : Cp} : evX gc cf (.chain o p a b c) false s = (evX gc cf a false s).bind (kChain1 gc cf o p b c) := by simp only [evX, fin]; rfl
@[simp] theorem q_and {md : Bool} : evX gc cf (.and_ a b) md s = (evX gc cf a md s).bind (kAnd gc cf b md) := by simp only [evX]; rfl
@[simp] theorem q_or {md : Bool} : evX gc cf (.or_ a b) md s = (evX gc cf a md s).bind (kOr gc cf b md) := by simp only [evX]; rfl
@[simp] theorem q_not : evX gc cf (.not_ a) true s = (evX gc cf a true s).bind kNot := by simp only [evX]; rfl
@[simp] theorem q_notF : evX gc cf (.not_ a) false s = ((evX gc cf a false s).bind kTruth).bind kNot := by simp only [evX]; rfl
@[simp] theorem q_ite {md : Bool} : evX gc cf (.ite c a b) md s = (evX gc cf c true s).bind (kIte gc cf a b md) := by simp only [evX]; rfl
@[simp] theorem q_idx : evX gc cf (.idx a b) false s = (evX gc cf a false s).bind (kIdx1 gc cf b) := by simp only [evX, fin]; rfl
@[simp] theorem q_sl : evX gc cf (.sl a b c) false s = (evX gc cf a false s).bind (kSl1 gc cf b c) := by simp only [evX, fin]; rfl
@[simp] theorem q_rev : evX gc cf (.rev a) false s = (evX gc cf a false s).bind kRev := by simp only [evX, fin]; rfl
@[simp] theorem q_call {f : Nat} : evX gc cf (.call f es) false s = (evEs gc cf es s).bind (kCall cf f) := by simp only [evX, fin]; rfl
@[simp] theorem q_callK {f : Nat} {ks : List Ex} : evX gc cf (.callK f es ks) false s = (evEs gc cf es s).bind (kCallK1 gc cf f ks) := by simp only [evX, fin]; rfl
@[simp] theorem q_bi {b : Bi} : evX gc cf (.bi b es) false s = (evEs gc cf es s).bind (kBi b) := by simp only [evX, fin]; rfl
@[simp] theorem q_pop {i : Nat} : evX gc cf (.pop i) false s = kPop i s s.env[i]? := by simp only [evX, fin]; rfl
@[simp] theorem q_callP {f : Nat} {ks : List Ex} {ps : List Nat} : evX gc cf (.callP f es ks ps) false s = (evEs gc cf es s).bind (kCallP1 gc cf f ks ps) := by simp only [evX, fin]; rfl
@[simp] theorem t_callP {f : Nat} {ks : List Ex} {ps : List Nat} : evX gc cf (.callP f es ks ps) true s = (evX gc cf (.callP f es ks ps) false s).bind kTruth := by simp only [evX, fin]; rfl
@[simp] theorem t_mv {i : Nat} : evX gc cf (.mv i) true s = (evX gc cf (.mv i) false s).bind kTruth := by simp only [evX, fin]; rfl
@[simp] theorem q_orV : evX gc cf (.orV a b) false s = (evX gc cf a false s).bind (kOrV1 gc cf b) := by
  simp only [evX]
  refine congrArg (fun f => Rs.bind (evX gc cf a false s) f) (funext fun x => funext fun s1 => ?_)
  unfold kOrV1
  generalize truth (s1.deref x) = o
  rcases o with _ | o
  · rfl
  · cases o <;> rfl
@[simp] theorem q_fld {f : Str} : evX gc cf (.fld a f) false s = (evX gc cf a false s).bind (kFld f) := by
  simp only [evX, fin]
  refine congrArg (fun f => Rs.bind (evX gc cf a false s) f) (funext fun x => funext fun s1 => ?_)
  unfold kFld
  cases s1.deref x <;> try rfl
@[simp] theorem q_isC {f : Str} : evX gc cf (.isC f a) false s = (evX gc cf a false s).bind (kIsC f) := by simp only [evX, fin]; rfl
@[simp] theorem q_make {f : Nat} : evX gc cf (.make f es) false s = (evEs gc cf es s).bind (kCall cf f) := by simp only [evX, fin]; rfl
@[simp] theorem q_dsp : evX gc cf (.dsp es) false s = (evEs gc cf es s).bind kDsp := by simp only [evX, fin]; rfl
@[simp] theorem q_meth {m : Mt} : evX gc cf (.meth m a es) false s = (evX gc cf a false s).bind (kMeth gc cf m es) := by simp only [evX, fin]; rfl
@[simp] theorem q_popAt {i : Nat} : evX gc cf (.popAt i e) false s = kPA gc cf i e s s.env[i]? := by simp only [evX, fin]; rfl
@[simp] theorem t_fld {f : Str} : evX gc cf (.fld a f) true s = (evX gc cf (.fld a f) false s).bind kTruth := by simp only [evX, fin]; rfl
@[simp] theorem t_isC {f : Str} : evX gc cf (.isC f a) true s = (evX gc cf (.isC f a) false s).bind kTruth := by simp only [evX, fin]; rfl
@[simp] theorem t_meth {m : Mt} : evX gc cf (.meth m a es) true s = (evX gc cf (.meth m a es) false s).bind kTruth := by simp only [evX, fin]; rfl
@[simp] theorem t_sl : evX gc cf (.sl a b c) true s = (evX gc cf (.sl a b c) false s).bind kTruth := by simp only [evX, fin]; rfl
@[simp] theorem t_pop {i : Nat} : evX gc cf (.pop i) true s = (evX gc cf (.pop i) false s).bind kTruth := by simp only [evX, fin]; rfl
@[simp] theorem q_comp {k : Nat} {tg : Tg} {own : List Nat} : evX gc cf (.comp k e tg es c own) false s = (evEs gc cf es s).bind (kComp gc cf k e tg c own) := by simp only [evX, fin]; rfl
@[simp] theorem q_nil : evEs gc cf [] s = .ok [] s := by simp only [evEs]
@[simp] theorem q_cons : evEs gc cf (e :: es) s = (evX gc cf e false s).bind (kEs1 gc cf es) := by simp only [evEs]; rfl
@[simp] theorem q_snil {bs : List Bool} : evSt gc cf [] bs s = .ok [] s := by simp only [evSt]
@[simp] theorem q_scons {bs : List Bool} : evSt gc cf (e :: es) bs s = (evX gc cf e false s).bind (kSt1 gc cf es bs) := by simp only [evSt]; rfl
@[simp] theorem t_var {i : Nat} : evX gc cf (.var i) true s = (evX gc cf (.var i) false s).bind kTruth := by simp only [evX, fin]; rfl
@[simp] theorem t_gl {i : Nat} : evX gc cf (.gl i) true s = (evX gc cf (.gl i) false s).bind kTruth := by simp only [evX, fin]; rfl
@[simp] theorem t_bl {x : Bool} : evX gc cf (.bl x) true s = (evX gc cf (.bl x) false s).bind kTruth := by simp only [evX, fin]; rfl
@[simp] theorem t_cmp {o : Cp} : evX gc cf (.cmp o a b) true s = (evX gc cf (.cmp o a b) false s).bind kTruth := by simp only [evX, fin]; rfl
@[simp] theorem t_chain {o p : Cp} : evX gc cf (.chain o p a b c) true s = (evX gc cf (.chain o p a b c) false s).bind kTruth := by simp only [evX, fin]; rfl
@[simp] theorem t_idx : evX gc cf (.idx a b) true s = (evX gc cf (.idx a b) false s).bind kTruth := by simp only [evX, fin]; rfl
@[simp] theorem t_call {f : Nat} : evX gc cf (.call f es) true s = (evX gc cf (.call f es) false s).bind kTruth := by simp only [evX, fin]; rfl
@[simp] theorem t_callK {f : Nat} {ks : List Ex} : evX gc cf (.callK f es ks) true s = (evX gc cf (.callK f es ks) false s).bind kTruth := by simp only [evX, fin]; rfl
@[simp] theorem t_bi {b : Bi} : evX gc cf (.bi b es) true s = (evX gc cf (.bi b es) false s).bind kTruth := by simp only [evX, fin]; rfl
@[simp] theorem t_bin {o : Op} : evX gc cf (.bin o a b) true s = (evX gc cf (.bin o a b) false s).bind kTruth := by simp only [evX, fin]; rfl
@[simp] theorem kTruth_bl {x : Bool} : kTruth (.bl x) s = .ok (.bl x) s := rfl
end
section
variable (gc : Nat → Option Tr) (cf : CF) (wf : Nat)
@[simp] def kSet (i : Nat) (t : Tr) (s1 : Sta) : Rs Fl := if t.pure && decide (i < s1.env.length) then .ok .next ⟨s1.env.set i (.val t), s1.mem⟩ else .no
@[simp] def kOwn (i : Nat) (ts : List Tr) (s1 : Sta) : Rs Fl := if ts.all Tr.pure && decide (ts.length ≤ sizeLine) && decide (i < s1.env.length) then .ok .next ⟨s1.env.set i (.own (.lst ts)), s1.mem⟩ else .no
@[simp] def kOwnOf2 (i : Nat) (s1 : Sta) : Option (List Tr) → Rs Fl
  | some l => if i < s1.env.length then .ok .next ⟨s1.env.set i (.own (.lst l)), s1.mem⟩ else .no
  | none => .no
@[simp] def kOwnOf (i : Nat) (t : Tr) (s1 : Sta) : Rs Fl := kOwnOf2 i s1 (seqT (s1.deref t))
@[simp] def kOwnE (i : Nat) (t : Tr) (s1 : Sta) : Rs Fl := match t with
    | .lst l => if i < s1.env.length then .ok .next ⟨s1.env.set i (.own (.lst l)), s1.mem⟩ else .no
    | _ => .no
@[simp] def kDp5 (i : Nat) (ks : List Key) (vs : List Tr) (t : Tr) (s2 : Sta) : Option Key → Rs Fl
  | some k => if t.pure && decide (ks.length < sizeLine) then .ok .next ⟨s2.env.set i (.own (.dk (putV ks vs k t).1 (putV ks vs k t).2)), s2.mem⟩ else .no
  | none => .no
@[simp] def kDp6 (i : Nat) (ks : List (List Key)) (vs : List Tr) (t : Tr) (s2 : Sta) : Option (List Key) → Rs Fl
  | some k => if t.pure && decide (ks.length < sizeLine) then .ok .next ⟨s2.env.set i (.own (.dt (putV ks vs k t).1 (putV ks vs k t).2)), s2.mem⟩ else .no
  | none => .no
@[simp] def kDp4 (i : Nat) (t y : Tr) (s2 : Sta) : Option Slot → Rs Fl
  | some (.own (.dk ks vs)) => kDp5 i ks vs t s2 (keyT y)
  | some (.own (.dt ks vs)) => match y with
    | .tup l => kDp6 i ks vs t s2 (keysT l)
    | _ => .no
  | _ => .no
@[simp] def kDp3 (i : Nat) (t y : Tr) (s2 : Sta) : Rs Fl := kDp4 i t y s2 s2.env[i]?
@[simp] def kDp2 (i : Nat) (k : Ex) (t : Tr) (s1 : Sta) : Option Slot → Rs Fl
  | some (.own _) => (evX gc cf k false s1).bind (kDp3 i t)
  | _ => .no
@[simp] def kDp1 (i : Nat) (k : Ex) (t : Tr) (s1 : Sta) : Rs Fl := kDp2 gc cf i k t s1 s1.env[i]?
@[simp] def kFs3 (f : Str) (n : Nat) (t : Tr) (s2 : Sta) : Option Ob → Rs Fl
  | some (.ins c ns l) => if t.pure && decide (ns.length < 1000) then .ok .next ⟨s2.env, s2.mem.set n (.ins c (setF ns l f t).1 (setF ns l f t).2)⟩ else .no
  | _ => .no
@[simp] def kFs2 (f : Str) (t x : Tr) (s2 : Sta) : Rs Fl := match x with
    | .ob n => kFs3 f n t s2 s2.mem[n]?
    | _ => .no
@[simp] def kFs1 (o : Ex) (f : Str) (t : Tr) (s1 : Sta) : Rs Fl := (evX gc cf o false s1).bind (kFs2 f t)
@[simp] def kSA5 (i : Nat) (l : List Tr) (t : Tr) (s2 : Sta) : Option Nat → Rs Fl
  | some j => if t.pure then .ok .next ⟨s2.env.set i (.own (.lst (l.set j t))), s2.mem⟩ else .no
  | none => .no
@[simp] def kSA4 (i : Nat) (t : Tr) (s2 : Sta) : Option Slot → Tr → Rs Fl
  | some (.own (.lst l)), .int z => kSA5 i l t s2 (ixN l.length z)
  | _, _ => .no
@[simp] def kSA3 (i : Nat) (t y : Tr) (s2 : Sta) : Rs Fl := kSA4 i t s2 s2.env[i]? y
@[simp] def kSA2 (i : Nat) (k : Ex) (t : Tr) (s1 : Sta) : Option Slot → Rs Fl
  | some (.own _) => (evX gc cf k false s1).bind (kSA3 i t)
  | _ => .no
@[simp] def kSA1 (i : Nat) (k : Ex) (t : Tr) (s1 : Sta) : Rs Fl := kSA2 gc cf i k t s1 s1.env[i]?
@[simp] def kEnv (m : List Ob) : Option (List Slot) → Rs Fl
  | some env => .ok .next ⟨env, m⟩
  | none => .no
@[simp] def kMany (is : List (Nat × Nat)) (ts : List Tr) (s1 : Sta) : Rs Fl := if ts.all Tr.pure then kEnv s1.mem (manyGo is ts s1.env) else .no
@[simp] def kTgt (tg : Tg) (t : Tr) (s1 : Sta) : Rs Fl := kEnv s1.mem (asg tg t s1.env)
@[simp] def kAug2 (i : Nat) (o : Op) (x : Int) (y : Tr) (s1 : Sta) : Rs Fl := match o, y with
      | .add, .int y => .ok .next ⟨s1.env.set i (.val (.int (x + y))), s1.mem⟩
      | .sub, .int y => .ok .next ⟨s1.env.set i (.val (.int (x - y))), s1.mem⟩
      | _, _ => .no
@[simp] def kAug (i : Nat) (o : Op) (e : Ex) (s : Sta) : Option Slot → Rs Fl
  | some (.val (.int x)) => (evX gc cf e false s).bind (kAug2 i o x)
  | _ => .no
@[simp] def kPut5 (n : Nat) (l : List Tr) (t : Tr) (s3 : Sta) : Option Nat → Rs Fl
  | some j => if t.pure then .ok .next ⟨s3.env, s3.mem.set n (.lst (l.set j t))⟩ else .no
  | none => .no
@[simp] def kPut4 (n : Nat) (i : Int) (t : Tr) (s3 : Sta) : Option Ob → Rs Fl
  | some (.lst l) => kPut5 n l t s3 (ixN l.length i)
  | _ => .no
@[simp] def kPut3 (t x y : Tr) (s3 : Sta) : Rs Fl := match x, y with
    | .ob n, .int i => kPut4 n i t s3 s3.mem[n]?
    | _, _ => .no
@[simp] def kPut2 (k : Ex) (t x : Tr) (s2 : Sta) : Rs Fl := (evX gc cf k false s2).bind (kPut3 t x)
@[simp] def kPut1 (o k : Ex) (t : Tr) (s1 : Sta) : Rs Fl := (evX gc cf o false s1).bind (kPut2 gc cf k t)
@[simp] def kApp3 (i : Nat) (t : Tr) (s1 : Sta) : Option Slot → Rs Fl
  | some (.own (.lst l)) => if t.pure && decide (l.length < sizeLine) then .ok .next ⟨s1.env.set i (.own (.lst (l ++ [t]))), s1.mem⟩ else .no
  | _ => .no
@[simp] def kApp2 (i : Nat) (t : Tr) (s1 : Sta) : Rs Fl := kApp3 i t s1 s1.env[i]?
@[simp] def kApp (i : Nat) (e : Ex) (s : Sta) : Option Slot → Rs Fl
  | some (.own (.lst _)) => (evX gc cf e false s).bind (kApp2 i)
  | _ => .no
@[simp] def kExt3 (i : Nat) (s1 : Sta) : Option Slot → Tr → Rs Fl
  | some (.own (.lst l)), .lst m => if l.length + m.length ≤ sizeLine then .ok .next ⟨s1.env.set i (.own (.lst (l ++ m))), s1.mem⟩ else .no
  | some (.own (.lst l)), .tup m => if l.length + m.length ≤ sizeLine then .ok .next ⟨s1.env.set i (.own (.lst (l ++ m))), s1.mem⟩ else .no
  | _, _ => .no
@[simp] def kExt2 (i : Nat) (t : Tr) (s1 : Sta) : Rs Fl := kExt3 i s1 s1.env[i]? t
@[simp] def kExt (i : Nat) (e : Ex) (s : Sta) : Option Slot → Rs Fl
  | some (.own (.lst _)) => (evX gc cf e false s).bind (kExt2 i)
  | _ => .no
@[simp] def kEx (_ : Tr) (s1 : Sta) : Rs Fl := .ok .next s1
@[simp] def kRet (t : Tr) (s1 : Sta) : Rs Fl := if t.pure then .ok (.ret t) s1 else .no
@[simp] def kIf (a b : List Sm) (x : Tr) (s1 : Sta) : Rs Fl := match x with
    | .bl true => exSs gc cf wf a s1
    | .bl false => exSs gc cf wf b s1
    | _ => .no
@[simp] def kFor2 (tg : Tg) (b : List Sm) (s1 : Sta) : Option (List Tr) → Rs Fl
  | some xs => forGo tg (exSs gc cf wf b) xs s1
  | none => .no
@[simp] def kFor (k : Nat) (tg : Tg) (b : List Sm) (vs : List Tr) (s1 : Sta) : Rs Fl := if vs.all Tr.pure then kFor2 gc cf wf tg b s1 (items k vs) else .no
@[simp] def kSeq (xs : List Sm) : Fl → Sta → Rs Fl
  | .next, s1 => exSs gc cf wf xs s1
  | .brk, s1 => .ok .brk s1
  | .cont, s1 => .ok .cont s1
  | .ret t, s1 => .ok (.ret t) s1
end
section
variable {gc : Nat → Option Tr} {cf : CF} {wf : Nat} {s : Sta} {e a b c : Ex} {es : List Ex} {x y : List Sm} {i : Nat}
@[simp] theorem s_set : exS gc cf wf (.set i e) s = (evX gc cf e false s).bind (kSet i) := by simp only [exS]; rfl
@[simp] theorem s_own : exS gc cf wf (.own i es) s = (evEs gc cf es s).bind (kOwn i) := by simp only [exS]; rfl
@[simp] theorem s_ownOf : exS gc cf wf (.ownOf i e) s = (evX gc cf e false s).bind (kOwnOf i) := by simp only [exS]; rfl
@[simp] theorem s_ownE : exS gc cf wf (.ownE i e) s = (evX gc cf e false s).bind (kOwnE i) := by simp only [exS]; rfl
@[simp] theorem s_ownDt : exS gc cf wf (.ownD i true) s = if i < s.env.length then .ok .next ⟨s.env.set i (.own (.dt [] [])), s.mem⟩ else .no := by simp only [exS]; rfl
@[simp] theorem s_ownDf : exS gc cf wf (.ownD i false) s = if i < s.env.length then .ok .next ⟨s.env.set i (.own (.dk [] [])), s.mem⟩ else .no := by simp only [exS]; rfl
@[simp] theorem s_dput : exS gc cf wf (.dput i a b) s = (evX gc cf b false s).bind (kDp1 gc cf i a) := by simp only [exS]; rfl
@[simp] theorem s_fset {f : Str} : exS gc cf wf (.fset a f e) s = (evX gc cf e false s).bind (kFs1 gc cf a f) := by simp only [exS]; rfl
@[simp] theorem s_setAt : exS gc cf wf (.setAt i a b) s = (evX gc cf b false s).bind (kSA1 gc cf i a) := by simp only [exS]; rfl
@[simp] theorem s_many {is : List (Nat × Nat)} : exS gc cf wf (.many is es) s = (evEs gc cf es s).bind (kMany is) := by simp only [exS]; rfl
@[simp] theorem s_tgt {tg : Tg} : exS gc cf wf (.tgt tg e) s = (evX gc cf e false s).bind (kTgt tg) := by simp only [exS]; rfl
@[simp] theorem s_aug {o : Op} : exS gc cf wf (.aug i o e) s = kAug gc cf i o e s s.env[i]? := by simp only [exS]; rfl
@[simp] theorem s_put : exS gc cf wf (.put a b c) s = (evX gc cf c false s).bind (kPut1 gc cf a b) := by simp only [exS]; rfl
@[simp] theorem s_app : exS gc cf wf (.app i e) s = kApp gc cf i e s s.env[i]? := by simp only [exS]; rfl
@[simp] theorem s_ext : exS gc cf wf (.ext i e) s = kExt gc cf i e s s.env[i]? := by simp only [exS]; rfl
@[simp] theorem s_ex : exS gc cf wf (.ex e) s = (evX gc cf e false s).bind kEx := by simp only [exS]; rfl
@[simp] theorem s_ret : exS gc cf wf (.ret e) s = (evX gc cf e false s).bind kRet := by simp only [exS]; rfl
@[simp] theorem s_retN : exS gc cf wf .retN s = .ok (.ret .non) s := by simp only [exS]
@[simp] theorem s_ite : exS gc cf wf (.ite e x y) s = (evX gc cf e true s).bind (kIf gc cf wf x y) := by simp only [exS]; rfl
@[simp] theorem s_for {k : Nat} {tg : Tg} : exS gc cf wf (.forr k tg es x) s = (evEs gc cf es s).bind (kFor gc cf wf k tg x) := by simp only [exS]; rfl
@[simp] theorem s_whl : exS gc cf wf (.whl e x) s = whGo (evX gc cf e true) (exSs gc cf wf x) wf s := by simp only [exS]
@[simp] theorem s_brk : exS gc cf wf .brk s = .ok .brk s := by simp only [exS]
@[simp] theorem s_cont : exS gc cf wf .cont s = .ok .cont s := by simp only [exS]
@[simp] theorem s_pass : exS gc cf wf .pass s = .ok .next s := by simp only [exS]
@[simp] theorem s_nil : exSs gc cf wf [] s = .ok .next s := by simp only [exSs]
@[simp] theorem s_cons {z : Sm} : exSs gc cf wf (z :: x) s = (exS gc cf wf z s).bind (kSeq gc cf wf x) := by
  simp only [exSs]
  congr 1
  funext f s1
  cases f <;> rfl
end
end Ev
/-! repr gives a text. -/
namespace Ev
open PySem
mutual
def sh : Nat → Tr → Option Nat
  | _, .int i => if i.natAbs.log2 < 1920 then some 1921 else none
  | _, .str z => some (reprText z).length
  | _, .non => some 4
  | _, .bl _ => some 5
  | 0, _ => none
  | n + 1, .tup l => match shs n l with
    | some k => some (k + 3)
    | none => none
  | n + 1, .lst l => match shs n l with
    | some k => some (k + 3)
    | none => none
  | _, _ => none
def shs : Nat → List Tr → Option Nat
  | _, [] => some 0
  | n, t :: l => match sh n t, shs n l with
    | some a, some b => some (a + b + 2)
    | _, _ => none
end
theorem tupleText_le (ts : List Str) : (tupleText ts).length ≤ piled ts + 3 := by
  unfold tupleText
  have e : ∀ a b : Str, (a ++ b).length = a.length + b.length := fun a b => strLen_append a b
  rw [e, e]
  have h1 : (("(" : String) : Str).length = 1 := rfl
  have h2 : (((if ts.length == 1 then ",)" else ")" : String) : Str)).length ≤ 2 := by
    split <;> decide +kernel
  have h3 : (Str.join ", " ts).length ≤ piled ts := by
    cases ts with
    | nil => exact Nat.zero_le _
    | cons a r => have := join_length_add (a :: r) (by simp); omega
  have h4 : (("(" : Str)).length = 1 := rfl
  omega
theorem listText_le (ts : List Str) : (listText ts).length ≤ piled ts + 3 := by
  have key : ∀ (ts : List Str) (k : Nat) (acc : Str), (textFrom k acc ts).length ≤ acc.length + piled ts := by
    intro ts
    induction ts with
    | nil => intro k acc; exact Nat.le_add_right _ _
    | cons t r ih =>
      intro k acc
      have h := ih (k + 1) (acc ++ (if k > 0 then ", " else "" : String) ++ t)
      have e : (acc ++ (if k > 0 then ", " else "" : String) ++ t).length = acc.length + (if k > 0 then 2 else 0) + t.length := by
        rw [strLen_append, strLen_append]
        congr 2
        split <;> rfl
      rw [piled_cons]
      show (textFrom (k + 1) (acc ++ (if k > 0 then ", " else "" : String) ++ t) r).length ≤ _
      have e2 : (if k > 0 then 2 else 0) ≤ 2 := by split <;> omega
      omega
  unfold listText
  rw [strLen_append]
  have h := key ts 0 "["
  have h1 : (("[" : String) : Str).length = 1 := rfl
  have h2 : (("]" : String) : Str).length = 1 := rfl
  omega
mutual
theorem sh_ok : ∀ (n : Nat) (t : Tr) (k : Nat), sh n t = some k → ∃ d, t.data = some d ∧ d.showable = true ∧ d.shown.length ≤ k ∧ d.depth ≤ n
  | n, .int i, k, h => by
    have h' : (if i.natAbs.log2 < 1920 then some 1921 else none) = some k := by cases n <;> simpa only [sh] using h
    split at h'
    · rename_i hi
      cases h'
      exact ⟨.int i, by simp only [Tr.data], by simpa [PyData.showable] using hi, by simp only [PyData.shown]; exact PyProof.Rows.int_text_len_1921 hi, by simp [PyData.depth]⟩
    · cases h'
  | n, .str z, k, h => by
    have h' : some (reprText z).length = some k := by cases n <;> simpa only [sh] using h
    cases h'
    exact ⟨.str z, by simp only [Tr.data], by simp [PyData.showable], by simp only [PyData.shown]; exact Nat.le_refl _, by simp [PyData.depth]⟩
  | 0, .tup l, k, h => by simp [sh] at h
  | n + 1, .tup l, k, h => by
    simp only [sh] at h
    cases e : shs n l with
    | none => rw [e] at h; cases h
    | some j =>
      rw [e] at h
      cases h
      obtain ⟨ds, h1, h2, h3, h4⟩ := shs_ok n l j e
      refine ⟨.tuple ds, by simp only [Tr.data, h1], by simpa only [PyData.showable] using h2, ?_, by simp only [PyData.depth]; omega⟩
      simp only [PyData.shown]
      exact Nat.le_trans (tupleText_le _) (by omega)
  | n, .non, k, h => by
    have h' : some 4 = some k := by cases n <;> simpa only [sh] using h
    cases h'
    exact ⟨.none, by simp only [Tr.data], by simp [PyData.showable], by simp only [PyData.shown]; decide +kernel, by simp [PyData.depth]⟩
  | n, .bl b, k, h => by
    have h' : some 5 = some k := by cases n <;> simpa only [sh] using h
    cases h'
    exact ⟨.bool b, by simp only [Tr.data], by simp [PyData.showable], by simp only [PyData.shown]; cases b <;> decide +kernel, by simp [PyData.depth]⟩
  | n, .dk _ _, k, h => by cases n <;> simp [sh] at h
  | n, .dt _ _, k, h => by cases n <;> simp [sh] at h
  | n, .ins _ _ _, k, h => by cases n <;> simp [sh] at h
  | 0, .lst l, k, h => by simp [sh] at h
  | n + 1, .lst l, k, h => by
    simp only [sh] at h
    cases e : shs n l with
    | none => rw [e] at h; cases h
    | some j =>
      rw [e] at h
      cases h
      obtain ⟨ds, h1, h2, h3, h4⟩ := shs_ok n l j e
      refine ⟨.list ds, by simp only [Tr.data, h1], by simpa only [PyData.showable] using h2, ?_, by simp only [PyData.depth]; omega⟩
      simp only [PyData.shown]
      exact Nat.le_trans (listText_le _) (by omega)
  | n, .flst l, k, h => by cases n <;> simp [sh] at h
  | n, .ob b, k, h => by cases n <;> simp [sh] at h
  | n, .bor b, k, h => by cases n <;> simp [sh] at h
theorem shs_ok : ∀ (n : Nat) (l : List Tr) (k : Nat), shs n l = some k → ∃ ds, datas l = some ds ∧ PyData.showableAll ds = true ∧ piled (PyData.shownAll ds) ≤ k ∧ PyData.depthAll ds ≤ n
  | n, [], k, h => by
    simp only [shs] at h
    cases h
    exact ⟨[], by simp only [datas], by simp only [PyData.showableAll], by simp [PyData.shownAll, piled], by simp [PyData.depthAll]⟩
  | n, t :: l, k, h => by
    simp only [shs] at h
    cases e1 : sh n t with
    | none => rw [e1] at h; cases h
    | some a =>
      cases e2 : shs n l with
      | none => rw [e1, e2] at h; cases h
      | some b =>
        rw [e1, e2] at h
        cases h
        obtain ⟨d, h1, h2, h3, h4⟩ := sh_ok n t a e1
        obtain ⟨ds, h5, h6, h7, h8⟩ := shs_ok n l b e2
        refine ⟨d :: ds, by simp only [datas, h1, h5], by simp only [PyData.showableAll, h2, h6]; rfl, ?_, by simp only [PyData.depthAll]; omega⟩
        simp only [PyData.shownAll]
        have : piled (d.shown :: PyData.shownAll ds) = d.shown.length + 2 + piled (PyData.shownAll ds) := by simp [piled]
        omega
end
theorem repr_of {n k : Nat} {t : Tr} (h : sh n t = some k) (hn : n ≤ 64) (hk : k ≤ 16777216) : ∃ z, reprT t = some (.str z) := by
  obtain ⟨d, h1, h2, h3, h4⟩ := sh_ok n t k h
  refine ⟨d.shown, ?_⟩
  unfold reprT
  rw [h1]
  dsimp only
  rw [if_pos]
  have a1 : decide (d.shown.length ≤ sizeLine) = true := decide_eq_true (by rw [Ev.sizeLine_eq]; omega)
  have a2 : decide (d.depth ≤ 64) = true := decide_eq_true (by omega)
  rw [h2, a1, a2]
  rfl
theorem shs_map {α : Type} {f : α → Tr} {n c : Nat} : ∀ {l : List α}, (∀ x ∈ l, sh n (f x) = some c) → shs n (l.map f) = some (l.length * (c + 2))
  | [], _ => by simp [shs]
  | x :: l, h => by
    rw [List.map_cons]
    simp only [shs, h x (by simp), shs_map (l := l) fun y hy => h y (by simp [hy])]
    congr 1
    rw [List.length_cons, Nat.add_mul]
    omega
theorem log_of {i : Int} {B : Nat} (h : i.natAbs ≤ B) (hb : B < 2 ^ 1920) : i.natAbs.log2 < 1920 := log2_le_of (by omega) (Nat.lt_of_le_of_lt h hb)
end Ev
/-! The functions of the text, in the own language. -/
namespace G
open Ev PySem
def pc_pot0 : Int := 1359
def pc_pot1 : Int := 1565
def pc_pot2 : Int := 679
def pc_pot3 : Int := 86517
def pc_pot4 : Int := 10285
def pc_take0 : Int := 303
def pc_take1 : Int := 1387
def pc_take2 : Int := 11307
def pc_take3 : Int := 555
def pc_take4 : Int := 100831
def g_FEED : Nat := 0
def g_BLANK : Nat := 1
def g_FIGURES : Nat := 2
def g_PAIR : Nat := 3
def g_MINUS : Nat := 4
def g_FIGURES_2 : Nat := 5
def g_LEAST_FIGURES : Nat := 6
def g_MOST_FIGURES : Nat := 7
def g_SIDES : Nat := 8
def g_ROW : Nat := 9
def g_ROW_WORDS : Nat := 10
def g_END : Nat := 11
def g_RIGHT : Nat := 12
def g_PAIRq1 : Nat := 20
def g_GROUND : Nat := 25
def g_X : Nat := 26
def g_Y : Nat := 27
def g_K : Nat := 28
def g_T : Nat := 29
def g_HAND : Nat := 30
def g_GROUNDq1 : Nat := 31
def g_Yq1 : Nat := 32
def g_Xq1 : Nat := 33
def g_SIGNS : Nat := 35
def g_Kq1 : Nat := 41
def g_EMPTY : Nat := 42
def n_law_cells : Nat := 0
def n_law_take : Nat := 1
def n_law_of : Nat := 2
def n_law_some : Nat := 3
def n_law_drawn_machine : Nat := 4
def n_whole_in : Nat := 5
def n_integer_in : Nat := 6
def n_figures_in : Nat := 7
def n_row_in : Nat := 8
def n_told_by : Nat := 9
def n_Machine : Nat := 10
def n_law_machine_text : Nat := 11
def n_law_package : Nat := 95
def n_law_any_number : Nat := 96
def n_law_same_moved : Nat := 97
def n_law_going_form : Nat := 98
def n_law_hand : Nat := 50
def n_law_moved_t : Nat := 51
def n_law_freed : Nat := 49
def n_law_form_word : Nat := 99
def n_law_form_times : Nat := 100
def n_law_form_undone : Nat := 101
def n_law_turned : Nat := 102
def n_law_passed : Nat := 103
def n_law_nested_word : Nat := 104
def n_check_machine : Nat := 15
def n_is_whole : Nat := 16
def n_is_power_2 : Nat := 78
def n_hand_number : Nat := 79
def n_is_letter : Nat := 80
def n_is_tuple : Nat := 17
def n_is_syllable : Nat := 81
def n_is_word : Nat := 82
def n_check_word : Nat := 105
def n_check_plain_word : Nat := 106
def n_put_together : Nat := 107
def n_times_of : Nat := 108
def n_form_of : Nat := 109
def n_lacking : Nat := 110
def n_exchanged_row : Nat := 111
def n_exchanged_of : Nat := 112
def n_lack_of : Nat := 113
def n_carried : Nat := 114
def n_passed_of : Nat := 115
def n_tower_of : Nat := 116
def n_tower : Nat := 117
def n_is_empty_of : Nat := 118
def n_is_empty : Nat := 119
def n_law_undone : Nat := 52
def n_undone_of : Nat := 67
def n_alike_of : Nat := 120
def n_alike : Nat := 121
def n_law_bent_syllable : Nat := 122
def n_law_form : Nat := 123
def n_law_tower : Nat := 124
def n_law_is_empty : Nat := 125
def n_law_right_7 : Nat := 126
def n_law_pot : Nat := 33
def n_law_7 : Nat := 127
/-! law_cells = _law_cells(script, limit): 0=script 1=limit -/
def b_law_cells : List Sm := [
  .ret (.bi .listRg [.bi .max2 [.int 1, .bi .min2 [.var 1, .bi .len [.var 0]]]])]
def f_law_cells : Fn := ⟨2, 2, b_law_cells, none⟩
/-! law_take = _law_take(pot, upto): 0=pot 1=upto 2=digit 3=prime 4=blend -/
def b_law_take : List Sm := [
  .ite (.cmp .gt (.idx (.var 0) (.int 0)) (.int 0)) [.set 2 (.bin .mod (.bi .int [.idx (.var 0) (.int 0)]) (.var 1)), .put (.var 0) (.int 0) (.bin .fdiv (.idx (.var 0) (.int 0)) (.var 1)), .ret (.var 2)] [],
  .put (.var 0) (.int 2) (.bin .add (.idx (.var 0) (.int 2)) (.int 1)),
  .set 3 (.idx (.lst [.int 2147483647, .int 2147483629, .int 2147483587, .int 2147483579, .int 2147483563]) (.bin .mod (.bi .int [.idx (.var 0) (.int 2)]) (.int 5))),
  .set 4 (.bin .mod (.bi .int [.bin .pow (.bi .int [.bin .add (.bin .add (.idx (.var 0) (.int 1)) (.bin .mul (.bin .mul (.int pc_take4) (.idx (.var 0) (.int 2))) (.idx (.var 0) (.int 2)))) (.int pc_take1)]) (.int 3)]) (.var 3)),
  .ret (.bin .mod (.bi .int [.bin .fdiv (.bin .mul (.var 4) (.bin .add (.bin .mod (.bi .int [.var 4]) (.int pc_take2)) (.bin .mul (.int pc_take3) (.idx (.var 0) (.int 2))))) (.int pc_take0)]) (.var 1))]
def f_law_take : Fn := ⟨2, 5, b_law_take, none⟩
/-! law_of = _law_of(pot, some): 0=pot 1=some -/
def b_law_of : List Sm := [
  .ret (.idx (.var 1) (.call n_law_take [.var 0, .bi .len [.var 1]]))]
def f_law_of : Fn := ⟨2, 2, b_law_of, none⟩
/-! law_some = _law_some(pot, pool, many): 0=pot 1=pool 2=many 3=stock 4=found 5=lap -/
def l_law_some_0 : List Sm := [.app 4 (.popAt 3 (.call n_law_take [.var 0, .bi .len [.var 3]]))]
def b_law_some : List Sm := [
  .many [(3, 1), (4, 1)] [.bi .listOf [.var 1], .lst []],
  .forr 1 (.nm 5) [.var 2] l_law_some_0,
  .ret (.mv 4)]
def f_law_some : Fn := ⟨3, 6, b_law_some, none⟩
/-! law_drawn_machine = _law_drawn_machine(pot): 0=pot 1=m 2=rows 3=rests 4=at 5=one 6=other 7=known -/
def e_law_drawn_machine_0 : Ex := .tup [.bin .fdiv (.var 4) (.var 1), .bin .mod (.var 4) (.var 1)]
def l_law_drawn_machine_1 : List Sm := [.set 7 (.ite (.cmp .eq (.var 2) (.lst [])) (.lst [.int 0]) (.lst [.int 0, .idx (.idx (.var 2) (.neg (.int 1))) (.int 0), .idx (.idx (.var 2) (.neg (.int 1))) (.int 1), .idx (.idx (.var 2) (.int 0)) (.int 0), .idx (.idx (.var 2) (.int 0)) (.int 1), .call n_law_take [.var 0, .bin .mul (.var 1) (.var 1)]])), .app 2 (.tup [.var 5, .var 6, .call n_law_of [.var 0, .var 7], .call n_law_of [.var 0, .lst [.str "left", .str "right"]]])]
def b_law_drawn_machine : List Sm := [
  .many [(1, 0), (2, 1)] [.call n_law_of [.var 0, .lst [.int 2, .int 2, .int 3, .int 3]], .lst []],
  .set 3 (.comp 2 e_law_drawn_machine_0 (.nm 4) [.int 1, .bin .mul (.var 1) (.var 1)] .nul [4]),
  .forr 0 (.tp [.nm 5, .nm 6]) [.call n_law_some [.var 0, .var 3, .bi .min2 [.bi .len [.var 3], .bin .add (.int 2) (.call n_law_take [.var 0, .int 5])]]] l_law_drawn_machine_1,
  .ret (.dsp [.str "m", .var 1, .str "rows", .call n_law_some [.var 0, .mv 2, .bi .len [.var 2]]])]
def f_law_drawn_machine : Fn := ⟨1, 8, b_law_drawn_machine, none⟩
/-! whole_in = whole_in(word): 0=word 1=figures 2=sign 3=found -/
def e_whole_in_0 : Ex := .cmp .inn (.var 2) (.gl g_FIGURES_2)
def l_whole_in_1 : List Sm := [.set 3 (.bin .add (.bin .mul (.int 10) (.var 3)) (.meth .index (.gl g_FIGURES_2) [.var 2]))]
def b_whole_in : List Sm := [
  .set 1 (.ite (.cmp .eq (.sl (.var 0) .nul (.int 1)) (.gl g_MINUS)) (.sl (.var 0) (.int 1) .nul) (.var 0)),
  .ite (.or_ (.cmp .eq (.var 1) (.str "")) (.not_ (.bi .all [.comp 0 e_whole_in_0 (.nm 2) [.var 1] .nul [2]]))) [.ret .non] [],
  .ite (.and_ (.cmp .eq (.idx (.var 1) (.int 0)) (.idx (.gl g_FIGURES_2) (.int 0))) (.cmp .ne (.var 0) (.idx (.gl g_FIGURES_2) (.int 0)))) [.ret .non] [],
  .set 3 (.int 0),
  .forr 0 (.nm 2) [.var 1] l_whole_in_1,
  .ret (.ite (.cmp .eq (.var 1) (.var 0)) (.var 3) (.neg (.var 3)))]
def f_whole_in : Fn := ⟨1, 4, b_whole_in, none⟩
/-! integer_in = integer_in(word, low, high): 0=word 1=low 2=high 3=number -/
def b_integer_in : List Sm := [
  .set 3 (.call n_whole_in [.var 0]),
  .ret (.ite (.and_ (.cmp .notN (.var 3) .non) (.chain .le .le (.var 1) (.var 3) (.var 2))) (.var 3) .non)]
def f_integer_in : Fn := ⟨3, 4, b_integer_in, none⟩
/-! figures_in = figures_in(words): 0=words -/
def b_figures_in : List Sm := [
  .ite (.or_ (.cmp .ne (.bi .len [.var 0]) (.gl g_PAIR)) (.cmp .ne (.idx (.var 0) (.int 0)) (.gl g_FIGURES))) [.ret .non] [],
  .ret (.call n_integer_in [.idx (.var 0) (.int 1), .gl g_LEAST_FIGURES, .gl g_MOST_FIGURES])]
def f_figures_in : Fn := ⟨1, 1, b_figures_in, none⟩
/-! row_in = row_in(figures, words): 0=figures 1=words 2=one 3=other 4=put -/
def b_row_in : List Sm := [
  .ite (.or_ (.cmp .ne (.bi .len [.var 1]) (.gl g_ROW_WORDS)) (.or_ (.cmp .ne (.idx (.var 1) (.int 0)) (.gl g_ROW)) (.cmp .nin (.idx (.var 1) (.neg (.int 1))) (.gl g_SIDES)))) [.ret .non] [],
  .many [(2, 0), (3, 0)] [.call n_integer_in [.idx (.var 1) (.int 1), .int 0, .bin .sub (.var 0) (.int 1)], .call n_integer_in [.idx (.var 1) (.int 2), .int 0, .bin .sub (.var 0) (.int 1)]],
  .set 4 (.call n_integer_in [.idx (.var 1) (.int 3), .int 0, .bin .sub (.bin .mul (.var 0) (.var 0)) (.int 1)]),
  .ite (.or_ (.cmp .isN (.var 2) .non) (.or_ (.cmp .isN (.var 3) .non) (.or_ (.cmp .isN (.var 4) .non) (.cmp .eq (.tup [.var 2, .var 3]) (.gl g_END))))) [.ret .non] [],
  .ret (.tup [.var 2, .var 3, .var 4, .idx (.var 1) (.neg (.int 1))])]
def f_row_in : Fn := ⟨2, 5, b_row_in, none⟩
/-! told_by = told_by(text): 0=text 1=lines 2=line 3=figures 4=rows 5=known 6=number 7=words 8=row -/
def e_told_by_0 : Ex := .meth .split (.var 2) [.gl g_BLANK]
def l_told_by_1 : List Sm := [.set 8 (.call n_row_in [.var 3, .var 7]), .ite (.or_ (.cmp .isN (.var 8) .non) (.cmp .inn (.sl (.var 8) .nul (.gl g_PAIR)) (.var 5))) [.bad] [], .dput 5 (.sl (.var 8) .nul (.gl g_PAIR)) (.bi .len [.var 4]), .app 4 (.var 8)]
def b_told_by : List Sm := [
  .ite (.not_ (.bi .isStr [.var 0])) [.bad] [],
  .set 1 (.comp 0 e_told_by_0 (.nm 2) [.meth .split (.var 0) [.gl g_FEED]] .nul [2]),
  .many [(3, 0), (4, 1), (5, 3)] [.call n_figures_in [.idx (.var 1) (.int 0)], .lst [], .dsp []],
  .ite (.cmp .isN (.var 3) .non) [.bad] [],
  .forr 3 (.tp [.nm 6, .nm 7]) [.sl (.var 1) (.int 1) .nul] l_told_by_1,
  .ite (.cmp .eq (.var 4) (.lst [])) [.bad] [],
  .ret (.tup [.var 3, .mv 4, .mv 5])]
def f_told_by : Fn := ⟨1, 9, b_told_by, none⟩
/-! Machine = Machine.__init__(self, text): 0=self 1=text 2=figures 3=rows 4=known -/
def b_Machine : List Sm := [
  .tgt (.tp [.nm 2, .nm 3, .nm 4]) (.call n_told_by [.var 1]),
  .fset (.var 0) "own_text" (.var 1),
  .fset (.var 0) "own_figures" (.var 2),
  .fset (.var 0) "own_rows" (.var 3),
  .fset (.var 0) "own_by_rests" (.var 4)]
def f_Machine : Fn := ⟨2, 5, b_Machine, some "Machine"⟩
/-! law_machine_text = _law_machine_text(machine): 0=machine 1=rows 2=one 3=row -/
def e_law_machine_text_0 : Ex := .bi .strOf [.bi .int [.var 2]]
def e_law_machine_text_1 : Ex := .meth .join (.str " ") [.bin .add (.bin .add (.lst [.str "row"]) (.comp 0 e_law_machine_text_0 (.nm 2) [.sl (.var 3) .nul (.int 3)] .nul [2])) (.lst [.idx (.var 3) (.int 3)])]
def b_law_machine_text : List Sm := [
  .own 1 [.bin .add (.str "figures ") (.bi .strOf [.bi .int [.idx (.var 0) (.str "m")]])],
  .ext 1 (.comp 0 e_law_machine_text_1 (.nm 3) [.idx (.var 0) (.str "rows")] .nul [3]),
  .ret (.meth .join (.str "\n") [.var 1])]
def f_law_machine_text : Fn := ⟨1, 4, b_law_machine_text, none⟩
/-! law_package = _law_package(machine): 0=machine -/
def b_law_package : List Sm := [
  .ret (.make n_Machine [.call n_law_machine_text [.var 0]])]
def f_law_package : Fn := ⟨1, 1, b_law_package, none⟩
/-! law_any_number = _law_any_number(pot): 0=pot -/
def b_law_any_number : List Sm := [
  .ret (.call n_law_of [.var 0, .lst [.int 0, .int 1, .neg (.int 1), .int 2, .neg (.int 3), .int 5, .bin .sub (.call n_law_take [.var 0, .int 40]) (.int 20), .bin .sub (.call n_law_take [.var 0, .bin .pow (.int 10) (.int 6)]) (.int 500000)]])]
def f_law_any_number : Fn := ⟨1, 1, b_law_any_number, none⟩
/-! law_same_moved = _law_same_moved(rows): 0=rows 1=found 2=pair 3=power -/
def l_law_same_moved_0 : List Sm := [.ite (.and_ (.cmp .ne (.var 1) (.lst [])) (.cmp .eq (.idx (.idx (.var 1) (.neg (.int 1))) (.int 0)) (.var 2))) [.set 3 (.bin .add (.var 3) (.idx (.pop 1) (.int 1)))] [], .ite (.cmp .ne (.var 3) (.int 0)) [.app 1 (.tup [.var 2, .var 3])] []]
def b_law_same_moved : List Sm := [
  .own 1 [],
  .forr 0 (.tp [.nm 2, .nm 3]) [.var 0] l_law_same_moved_0,
  .ret (.bi .tupOf [.var 1])]
def f_law_same_moved : Fn := ⟨1, 4, b_law_same_moved, none⟩
/-! law_going_form = _law_going_form(pot, machine, number, way): 0=pot 1=machine 2=number 3=way 4=m 5=one 6=other 7=figure 8=side 9=moved 10=ends 11=lap 12=u 13=v 14=pair 15=great -/
def l_law_going_form_0 : List Sm := [.many [(12, 0), (13, 0)] [.call n_law_any_number [.var 0], .call n_law_any_number [.var 0]], .set 14 (.tup [.bin .add (.bin .mul (.var 12) (.var 4)) (.var 5), .bin .add (.bin .mul (.var 13) (.var 4)) (.var 6)]), .ite (.cmp .eq (.var 3) (.neg (.int 1))) [.set 14 (.ite (.cmp .eq (.var 8) (.str "right")) (.tup [.bin .add (.bin .mul (.bin .mul (.var 12) (.var 4)) (.var 4)) (.var 7), .var 13]) (.tup [.var 12, .bin .add (.bin .mul (.bin .mul (.var 13) (.var 4)) (.var 4)) (.var 7)]))] [], .app 9 (.tup [.var 14, .call n_law_of [.var 0, .lst [.int 1, .neg (.int 1), .int 2, .neg (.int 3)]]])]
def b_law_going_form : List Sm := [
  .tgt (.tp [.nm 4, .tp [.nm 5, .nm 6, .nm 7, .nm 8]]) (.tup [.idx (.var 1) (.str "m"), .idx (.idx (.var 1) (.str "rows")) (.var 2)]),
  .many [(9, 1), (10, 1)] [.lst [], .lst [.call n_law_any_number [.var 0], .call n_law_any_number [.var 0]]],
  .forr 1 (.nm 11) [.call n_law_take [.var 0, .int 4]] l_law_going_form_0,
  .ite (.cmp .eq (.var 3) (.int 1)) [.ret (.tup [.call n_law_same_moved [.mv 9], .bin .mul (.idx (.var 10) (.int 0)) (.var 4), .bin .mul (.idx (.var 10) (.int 1)) (.var 4)])] [],
  .set 15 (.ite (.cmp .eq (.var 8) (.str "right")) (.int 0) (.int 1)),
  .setAt 10 (.var 15) (.bin .mul (.bin .mul (.idx (.var 10) (.var 15)) (.var 4)) (.var 4)),
  .ret (.tup [.call n_law_same_moved [.mv 9], .idx (.var 10) (.int 0), .idx (.var 10) (.int 1)])]
def f_law_going_form : Fn := ⟨4, 16, b_law_going_form, none⟩
/-! law_hand = _law_hand(number): 0=number -/
def b_law_hand : List Sm := [
  .ret (.bin .add (.str "h") (.bi .strOf [.bi .int [.var 0]]))]
def f_law_hand : Fn := ⟨1, 1, b_law_hand, none⟩
/-! law_moved_t = _law_moved_t(pair, power): 0=pair 1=power 2=found 3=one -/
def e_law_moved_t_0 : Ex := .var 3
def c_law_moved_t_1 : Ex := .cmp .ne (.idx (.var 3) (.int 1)) (.int 0)
def b_law_moved_t : List Sm := [
  .set 2 (.lst [.tup [.str "y", .bin .sub (.int 0) (.idx (.var 0) (.int 1))], .tup [.str "x", .bin .sub (.int 0) (.idx (.var 0) (.int 0))], .tup [.str "t", .var 1], .tup [.str "x", .idx (.var 0) (.int 0)], .tup [.str "y", .idx (.var 0) (.int 1)]]),
  .ret (.bi .tupOf [.comp 0 e_law_moved_t_0 (.nm 3) [.var 2] c_law_moved_t_1 [3]])]
def f_law_moved_t : Fn := ⟨2, 4, b_law_moved_t, none⟩
/-! law_freed = _law_freed(word): 0=word 1=found 2=letter 3=power -/
def l_law_freed_0 : List Sm := [.ite (.and_ (.cmp .inn (.var 2) (.tup [.str "x", .str "y", .str "t"])) (.and_ (.cmp .ne (.var 1) (.lst [])) (.cmp .eq (.idx (.idx (.var 1) (.neg (.int 1))) (.int 0)) (.var 2)))) [.set 3 (.bin .add (.var 3) (.idx (.pop 1) (.int 1))), .ite (.cmp .ne (.var 3) (.int 0)) [.app 1 (.tup [.var 2, .var 3])] []] [.ite (.and_ (.cmp .nin (.var 2) (.tup [.str "x", .str "y", .str "t"])) (.and_ (.cmp .ne (.var 1) (.lst [])) (.cmp .eq (.idx (.var 1) (.neg (.int 1))) (.tup [.var 2, .bin .sub (.int 0) (.var 3)])))) [.ex (.pop 1)] [.ite (.cmp .ne (.var 3) (.int 0)) [.app 1 (.tup [.var 2, .var 3])] []]]]
def b_law_freed : List Sm := [
  .own 1 [],
  .forr 0 (.tp [.nm 2, .nm 3]) [.var 0] l_law_freed_0,
  .ret (.bi .tupOf [.var 1])]
def f_law_freed : Fn := ⟨1, 4, b_law_freed, none⟩
/-! law_form_word = _law_form_word(form): 0=form 1=found 2=pair 3=power -/
def l_law_form_word_0 : List Sm := [.ext 1 (.call n_law_moved_t [.var 2, .var 3])]
def b_law_form_word : List Sm := [
  .own 1 [],
  .forr 0 (.tp [.nm 2, .nm 3]) [.idx (.var 0) (.int 0)] l_law_form_word_0,
  .ext 1 (.lst [.tup [.str "x", .idx (.var 0) (.int 1)], .tup [.str "y", .idx (.var 0) (.int 2)]]),
  .ret (.call n_law_freed [.mv 1])]
def f_law_form_word : Fn := ⟨1, 4, b_law_form_word, none⟩
/-! law_form_times = _law_form_times(one, other): 0=one 1=other 2=shifted 3=pair 4=power -/
def e_law_form_times_0 : Ex := .tup [.tup [.bin .sub (.idx (.var 3) (.int 0)) (.idx (.var 0) (.int 1)), .bin .sub (.idx (.var 3) (.int 1)) (.idx (.var 0) (.int 2))], .var 4]
def b_law_form_times : List Sm := [
  .set 2 (.comp 0 e_law_form_times_0 (.tp [.nm 3, .nm 4]) [.idx (.var 1) (.int 0)] .nul [3, 4]),
  .ret (.tup [.call n_law_same_moved [.bin .add (.bi .listOf [.idx (.var 0) (.int 0)]) (.var 2)], .bin .add (.idx (.var 0) (.int 1)) (.idx (.var 1) (.int 1)), .bin .add (.idx (.var 0) (.int 2)) (.idx (.var 1) (.int 2))])]
def f_law_form_times : Fn := ⟨2, 5, b_law_form_times, none⟩
/-! law_form_undone = _law_form_undone(form): 0=form 1=turned 2=pair 3=power -/
def e_law_form_undone_0 : Ex := .tup [.var 2, .bin .sub (.int 0) (.var 3)]
def b_law_form_undone : List Sm := [
  .set 1 (.bi .tupOf [.comp 0 e_law_form_undone_0 (.tp [.nm 2, .nm 3]) [.rev (.idx (.var 0) (.int 0))] .nul [2, 3]]),
  .ret (.call n_law_form_times [.tup [.tup [], .bin .sub (.int 0) (.idx (.var 0) (.int 1)), .bin .sub (.int 0) (.idx (.var 0) (.int 2))], .tup [.var 1, .int 0, .int 0]])]
def f_law_form_undone : Fn := ⟨1, 4, b_law_form_undone, none⟩
/-! law_turned = _law_turned(form): 0=form 1=r 2=s 3=power -/
def e_law_turned_0 : Ex := .tup [.tup [.var 2, .var 1], .var 3]
def b_law_turned : List Sm := [
  .ret (.tup [.bi .tupOf [.comp 0 e_law_turned_0 (.tp [.tp [.nm 1, .nm 2], .nm 3]) [.idx (.var 0) (.int 0)] .nul [1, 2, 3]], .idx (.var 0) (.int 2), .idx (.var 0) (.int 1)])]
def f_law_turned : Fn := ⟨1, 4, b_law_turned, none⟩
/-! law_passed = _law_passed(machine, number, form, way): 0=machine 1=number 2=form 3=way 4=m 5=one 6=other 7=figure 8=side 9=told 10=moved 11=p 12=q 13=r 14=s 15=power -/
def e_law_passed_0 : Ex := .cmp .ne (.tup [.bin .mod (.var 13) (.var 4), .bin .mod (.var 14) (.var 4)]) (.tup [.var 5, .var 6])
def e_law_passed_1 : Ex := .tup [.tup [.bin .add (.bin .mul (.bin .mul (.bin .fdiv (.var 13) (.var 4)) (.var 4)) (.var 4)) (.var 7), .bin .fdiv (.var 14) (.var 4)], .var 15]
def e_law_passed_2 : Ex := .cmp .ne (.bin .mod (.bin .sub (.var 13) (.var 7)) (.bin .mul (.var 4) (.var 4))) (.int 0)
def e_law_passed_3 : Ex := .tup [.tup [.bin .add (.bin .fdiv (.bin .sub (.var 13) (.var 7)) (.var 4)) (.var 5), .bin .add (.bin .mul (.var 14) (.var 4)) (.var 6)], .var 15]
def b_law_passed : List Sm := [
  .tgt (.tp [.nm 4, .tp [.nm 5, .nm 6, .nm 7, .nm 8]]) (.tup [.idx (.var 0) (.str "m"), .idx (.idx (.var 0) (.str "rows")) (.var 1)]),
  .ite (.cmp .eq (.var 8) (.str "left")) [.set 9 (.call n_law_passed [.dsp [.str "m", .var 4, .str "rows", .lst [.tup [.var 6, .var 5, .var 7, .str "right"]]], .int 0, .call n_law_turned [.var 2], .var 3]), .ret (.ite (.cmp .isN (.var 9) .non) .non (.call n_law_turned [.var 9]))] [],
  .tgt (.tp [.nm 10, .nm 11, .nm 12]) (.var 2),
  .ite (.cmp .eq (.var 3) (.int 1)) [.ite (.or_ (.cmp .ne (.bin .mod (.var 11) (.var 4)) (.int 0)) (.or_ (.cmp .ne (.bin .mod (.var 12) (.var 4)) (.int 0)) (.bi .any [.comp 0 e_law_passed_0 (.tp [.tp [.nm 13, .nm 14], .nm 15]) [.var 10] .nul [13, 14, 15]]))) [.ret .non] [], .ret (.tup [.bi .tupOf [.comp 0 e_law_passed_1 (.tp [.tp [.nm 13, .nm 14], .nm 15]) [.var 10] .nul [13, 14, 15]], .bin .mul (.var 11) (.var 4), .bin .fdiv (.var 12) (.var 4)])] [],
  .ite (.or_ (.cmp .ne (.bin .mod (.var 11) (.bin .mul (.var 4) (.var 4))) (.int 0)) (.bi .any [.comp 0 e_law_passed_2 (.tp [.tp [.nm 13, .nm 14], .nm 15]) [.var 10] .nul [13, 14, 15]])) [.ret .non] [],
  .ret (.tup [.bi .tupOf [.comp 0 e_law_passed_3 (.tp [.tp [.nm 13, .nm 14], .nm 15]) [.var 10] .nul [13, 14, 15]], .bin .fdiv (.var 11) (.var 4), .bin .mul (.var 12) (.var 4)])]
def f_law_passed : Fn := ⟨4, 16, b_law_passed, none⟩
/-! law_nested_word = _law_nested_word(pot, machine, deep): 0=pot 1=machine 2=deep 3=word 4=form 5=lap 6=number 7=way 8=goal 9=hand 10=ahead -/
def l_law_nested_word_0 : List Sm := [.many [(6, 0), (7, 0)] [.call n_law_take [.var 0, .bi .len [.idx (.var 1) (.str "rows")]], .call n_law_of [.var 0, .lst [.int 1, .neg (.int 1)]]], .many [(8, 0), (9, 0)] [.call n_law_going_form [.var 0, .var 1, .var 6, .var 7], .call n_law_hand [.var 6]], .set 10 (.call n_law_form_word [.call n_law_form_times [.var 8, .call n_law_form_undone [.var 4]]]), .set 3 (.bin .add (.bin .add (.bin .add (.tup [.tup [.var 9, .bin .sub (.int 0) (.var 7)]]) (.var 10)) (.var 3)) (.tup [.tup [.var 9, .var 7]])), .set 4 (.call n_law_passed [.var 1, .var 6, .var 8, .var 7])]
def b_law_nested_word : List Sm := [
  .many [(3, 0), (4, 0)] [.tup [], .tup [.tup [], .int 0, .int 0]],
  .forr 1 (.nm 5) [.var 2] l_law_nested_word_0,
  .ret (.tup [.var 3, .var 4])]
def f_law_nested_word : Fn := ⟨3, 11, b_law_nested_word, none⟩
/-! check_machine = check_machine(value): 0=value -/
def b_check_machine : List Sm := [
  .ite (.not_ (.isC "Machine" (.var 0))) [.bad] []]
def f_check_machine : Fn := ⟨1, 1, b_check_machine, none⟩
/-! is_whole = is_whole(value): 0=value -/
def b_is_whole : List Sm := [
  .ret (.and_ (.bi .isInt [.var 0]) (.not_ (.bi .isBool [.var 0])))]
def f_is_whole : Fn := ⟨1, 1, b_is_whole, none⟩
/-! is_power_2 = is_power(letter, value): 0=letter 1=value -/
def b_is_power_2 : List Sm := [
  .ite (.not_ (.call n_is_whole [.var 1])) [.ret (.bl false)] [],
  .ret (.ite (.cmp .inn (.var 0) (.gl g_GROUND)) (.cmp .ne (.var 1) (.int 0)) (.cmp .inn (.var 1) (.gl g_SIGNS)))]
def f_is_power_2 : Fn := ⟨2, 2, b_is_power_2, none⟩
/-! hand_number = hand_number(letter): 0=letter 1=number -/
def b_hand_number : List Sm := [
  .ite (.cmp .ne (.sl (.var 0) .nul (.int 1)) (.gl g_HAND)) [.ret .non] [],
  .set 1 (.call n_whole_in [.sl (.var 0) (.int 1) .nul]),
  .ret (.ite (.and_ (.cmp .notN (.var 1) .non) (.cmp .ge (.var 1) (.int 0))) (.var 1) .non)]
def f_hand_number : Fn := ⟨1, 2, b_hand_number, none⟩
/-! is_letter = is_letter(machine, value): 0=machine 1=value 2=number -/
def b_is_letter : List Sm := [
  .ite (.not_ (.bi .isStr [.var 1])) [.ret (.bl false)] [],
  .ite (.or_ (.cmp .inn (.var 1) (.gl g_GROUND)) (.cmp .eq (.var 1) (.gl g_K))) [.ret (.bl true)] [],
  .set 2 (.call n_hand_number [.var 1]),
  .ret (.and_ (.cmp .notN (.var 2) .non) (.or_ (.cmp .isN (.var 0) .non) (.cmp .lt (.var 2) (.bi .len [.fld (.var 0) "own_rows"]))))]
def f_is_letter : Fn := ⟨2, 3, b_is_letter, none⟩
/-! is_tuple = is_tuple(value, least, most): 0=value 1=least 2=most -/
def b_is_tuple : List Sm := [
  .ret (.and_ (.bi .isTup [.var 0]) (.and_ (.cmp .le (.var 1) (.bi .len [.var 0])) (.or_ (.cmp .isN (.var 2) .non) (.cmp .le (.bi .len [.var 0]) (.var 2)))))]
def f_is_tuple : Fn := ⟨3, 3, b_is_tuple, none⟩
/-! is_syllable = is_syllable(machine, value): 0=machine 1=value -/
def b_is_syllable : List Sm := [
  .ret (.and_ (.call n_is_tuple [.var 1, .gl g_PAIR, .gl g_PAIR]) (.and_ (.call n_is_letter [.var 0, .idx (.var 1) (.int 0)]) (.call n_is_power_2 [.idx (.var 1) (.int 0), .idx (.var 1) (.int 1)])))]
def f_is_syllable : Fn := ⟨2, 2, b_is_syllable, none⟩
/-! is_word = is_word(machine, value): 0=machine 1=value 2=one -/
def e_is_word_0 : Ex := .call n_is_syllable [.var 0, .var 2]
def b_is_word : List Sm := [
  .ret (.and_ (.bi .isTup [.var 1]) (.bi .all [.comp 0 e_is_word_0 (.nm 2) [.var 1] .nul [2]]))]
def f_is_word : Fn := ⟨2, 3, b_is_word, none⟩
/-! check_word = check_word(machine, value): 0=machine 1=value -/
def b_check_word : List Sm := [
  .ite (.not_ (.call n_is_word [.var 0, .var 1])) [.bad] []]
def f_check_word : Fn := ⟨2, 2, b_check_word, none⟩
/-! check_plain_word = check_plain_word(machine, word): 0=machine 1=word 2=number 3=syllable -/
def l_check_plain_word_0 : List Sm := [.ite (.cmp .eq (.idx (.var 3) (.int 0)) (.gl g_Kq1)) [.bad] []]
def b_check_plain_word : List Sm := [
  .ex (.call n_check_word [.var 0, .var 1]),
  .forr 3 (.tp [.nm 2, .nm 3]) [.var 1] l_check_plain_word_0]
def f_check_plain_word : Fn := ⟨2, 4, b_check_plain_word, none⟩
/-! put_together = put_together(ts): 0=ts 1=found 2=pair 3=power -/
def l_put_together_0 : List Sm := [.ite (.and_ (.cmp .ne (.var 1) (.lst [])) (.cmp .eq (.idx (.idx (.var 1) (.neg (.int 1))) (.int 0)) (.var 2))) [.aug 3 .add (.idx (.pop 1) (.int 1))] [], .ite (.cmp .ne (.var 3) (.int 0)) [.app 1 (.tup [.var 2, .var 3])] []]
def b_put_together : List Sm := [
  .own 1 [],
  .forr 0 (.tp [.nm 2, .nm 3]) [.var 0] l_put_together_0,
  .ret (.bi .tupOf [.var 1])]
def f_put_together : Fn := ⟨1, 4, b_put_together, none⟩
/-! times_of = times_of(one, other): 0=one 1=other 2=ts 3=first 4=second 5=later 6=pair 7=power -/
def e_times_of_0 : Ex := .tup [.tup [.bin .sub (.idx (.var 6) (.int 0)) (.var 3), .bin .sub (.idx (.var 6) (.int 1)) (.var 4)], .var 7]
def b_times_of : List Sm := [
  .tgt (.tp [.nm 2, .nm 3, .nm 4]) (.var 0),
  .set 5 (.comp 0 e_times_of_0 (.tp [.nm 6, .nm 7]) [.idx (.var 1) (.int 0)] .nul [6, 7]),
  .ret (.tup [.call n_put_together [.disp 1 [true, true] [.var 2, .var 5]], .bin .add (.var 3) (.idx (.var 1) (.int 1)), .bin .add (.var 4) (.idx (.var 1) (.neg (.int 1)))])]
def f_times_of : Fn := ⟨2, 8, b_times_of, none⟩
/-! form_of = form_of(word): 0=word 1=ts 2=first 3=second 4=letter 5=power -/
def l_form_of_0 : List Sm := [.ite (.cmp .eq (.var 4) (.gl g_X)) [.aug 2 .add (.var 5)] [.ite (.cmp .eq (.var 4) (.gl g_Y)) [.aug 3 .add (.var 5)] [.app 1 (.tup [.tup [.neg (.var 2), .neg (.var 3)], .var 5])]]]
def b_form_of : List Sm := [
  .many [(1, 1), (2, 0), (3, 0)] [.lst [], .int 0, .int 0],
  .forr 0 (.tp [.nm 4, .nm 5]) [.var 0] l_form_of_0,
  .ret (.tup [.call n_put_together [.mv 1], .var 2, .var 3])]
def f_form_of : Fn := ⟨1, 6, b_form_of, none⟩
/-! lacking = lacking(figures, row, form, way): 0=figures 1=row 2=form 3=way 4=one 5=other 6=figure 7=side 8=moved 9=along 10=up 11=great 12=pair 13=power -/
def l_lacking_0 : List Sm := [.ite (.and_ (.cmp .eq (.var 3) (.int 1)) (.cmp .ne (.tup [.bin .mod (.idx (.var 12) (.int 0)) (.var 0), .bin .mod (.idx (.var 12) (.int 1)) (.var 0)]) (.tup [.var 4, .var 5]))) [.ret (.tup [.gl g_T, .var 12])] [], .ite (.and_ (.cmp .eq (.var 3) (.neg (.int 1))) (.cmp .ne (.bin .mod (.bin .sub (.idx (.var 12) (.int 0)) (.var 6)) (.var 11)) (.int 0))) [.ret (.tup [.gl g_T, .var 12])] []]
def b_lacking : List Sm := [
  .tgt (.tp [.nm 4, .nm 5, .nm 6, .nm 7]) (.var 1),
  .tgt (.tp [.nm 8, .nm 9, .nm 10]) (.var 2),
  .set 11 (.bin .mul (.var 0) (.var 0)),
  .ite (.cmp .ne (.bin .mod (.var 9) (.ite (.cmp .eq (.var 3) (.int 1)) (.var 0) (.var 11))) (.int 0)) [.ret (.tup [.gl g_Xq1, .var 9])] [],
  .ite (.and_ (.cmp .eq (.var 3) (.int 1)) (.cmp .ne (.bin .mod (.var 10) (.var 0)) (.int 0))) [.ret (.tup [.gl g_Yq1, .var 10])] [],
  .forr 0 (.tp [.nm 12, .nm 13]) [.var 8] l_lacking_0,
  .ret .non]
def f_lacking : Fn := ⟨4, 14, b_lacking, none⟩
/-! exchanged_row = exchanged_row(row): 0=row 1=one 2=other 3=figure 4=side -/
def b_exchanged_row : List Sm := [
  .tgt (.tp [.nm 1, .nm 2, .nm 3, .nm 4]) (.var 0),
  .ret (.tup [.var 2, .var 1, .var 3, .gl g_RIGHT])]
def f_exchanged_row : Fn := ⟨1, 5, b_exchanged_row, none⟩
/-! exchanged_of = exchanged_of(form): 0=form 1=moved 2=one 3=other 4=pair 5=power -/
def e_exchanged_of_0 : Ex := .tup [.tup [.idx (.var 4) (.int 1), .idx (.var 4) (.int 0)], .var 5]
def b_exchanged_of : List Sm := [
  .tgt (.tp [.nm 1, .nm 2, .nm 3]) (.var 0),
  .ret (.tup [.bi .tupOf [.comp 0 e_exchanged_of_0 (.tp [.nm 4, .nm 5]) [.var 1] .nul [4, 5]], .var 3, .var 2])]
def f_exchanged_of : Fn := ⟨1, 6, b_exchanged_of, none⟩
/-! lack_of = lack_of(machine, number, form, way): 0=machine 1=number 2=form 3=way 4=row 5=told 6=moved 7=along 8=up 9=mine -/
def b_lack_of : List Sm := [
  .set 4 (.idx (.fld (.var 0) "own_rows") (.var 1)),
  .ite (.cmp .eq (.idx (.var 4) (.neg (.int 1))) (.gl g_RIGHT)) [.ret (.call n_lacking [.fld (.var 0) "own_figures", .var 4, .var 2, .var 3])] [],
  .set 5 (.call n_exchanged_row [.var 4]),
  .tgt (.tp [.nm 6, .nm 7, .nm 8]) (.call n_exchanged_of [.var 2]),
  .set 9 (.call n_lacking [.fld (.var 0) "own_figures", .var 5, .tup [.tup [], .int 0, .var 8], .var 3]),
  .ite (.cmp .notN (.var 9) .non) [.ret (.tup [.gl g_Xq1, .idx (.var 9) (.int 1)])] [],
  .set 9 (.call n_lacking [.fld (.var 0) "own_figures", .var 5, .tup [.var 6, .var 7, .int 0], .var 3]),
  .ite (.cmp .isN (.var 9) .non) [.ret .non] [],
  .ret (.ite (.cmp .eq (.idx (.var 9) (.int 0)) (.gl g_Xq1)) (.tup [.gl g_Yq1, .idx (.var 9) (.int 1)]) (.tup [.gl g_T, .tup [.idx (.idx (.var 9) (.int 1)) (.int 1), .idx (.idx (.var 9) (.int 1)) (.int 0)]]))]
def f_lack_of : Fn := ⟨4, 10, b_lack_of, none⟩
/-! carried = carried(figures, row, form, way): 0=figures 1=row 2=form 3=way 4=one 5=other 6=figure 7=side 8=moved 9=along 10=up 11=great 12=found 13=pair 14=power 15=goal -/
def l_carried_0 : List Sm := [.ite (.cmp .eq (.var 3) (.int 1)) [.set 15 (.tup [.bin .add (.bin .mul (.bin .fdiv (.idx (.var 13) (.int 0)) (.var 0)) (.var 11)) (.var 6), .bin .fdiv (.idx (.var 13) (.int 1)) (.var 0)])] [.set 15 (.tup [.bin .add (.bin .mul (.bin .fdiv (.bin .sub (.idx (.var 13) (.int 0)) (.var 6)) (.var 11)) (.var 0)) (.var 4), .bin .add (.bin .mul (.idx (.var 13) (.int 1)) (.var 0)) (.var 5)])], .app 12 (.tup [.var 15, .var 14])]
def b_carried : List Sm := [
  .tgt (.tp [.nm 4, .nm 5, .nm 6, .nm 7]) (.var 1),
  .tgt (.tp [.nm 8, .nm 9, .nm 10]) (.var 2),
  .many [(11, 0), (12, 1)] [.bin .mul (.var 0) (.var 0), .lst []],
  .forr 0 (.tp [.nm 13, .nm 14]) [.var 8] l_carried_0,
  .ite (.cmp .eq (.var 3) (.int 1)) [.ret (.tup [.bi .tupOf [.var 12], .bin .mul (.var 9) (.var 0), .bin .fdiv (.var 10) (.var 0)])] [],
  .ret (.tup [.bi .tupOf [.var 12], .bin .fdiv (.var 9) (.var 0), .bin .mul (.var 10) (.var 0)])]
def f_carried : Fn := ⟨4, 16, b_carried, none⟩
/-! passed_of = passed_of(machine, number, form, way): 0=machine 1=number 2=form 3=way 4=row -/
def b_passed_of : List Sm := [
  .ite (.cmp .notN (.call n_lack_of [.var 0, .var 1, .var 2, .var 3]) .non) [.ret .non] [],
  .set 4 (.idx (.fld (.var 0) "own_rows") (.var 1)),
  .ite (.cmp .eq (.idx (.var 4) (.neg (.int 1))) (.gl g_RIGHT)) [.ret (.call n_carried [.fld (.var 0) "own_figures", .var 4, .var 2, .var 3])] [],
  .ret (.call n_exchanged_of [.call n_carried [.fld (.var 0) "own_figures", .call n_exchanged_row [.var 4], .call n_exchanged_of [.var 2], .var 3]])]
def f_passed_of : Fn := ⟨4, 5, b_passed_of, none⟩
/-! tower_of = tower_of(machine, word): 0=machine 1=word 2=found 3=letter 4=power 5=told -/
def l_tower_of_0 : List Sm := [.set 5 .non, .ite (.cmp .inn (.var 3) (.gl g_GROUNDq1)) [.setAt 2 (.neg (.int 1)) (.call n_times_of [.idx (.var 2) (.neg (.int 1)), .call n_form_of [.tup [.tup [.var 3, .var 4]]]]), .cont] [], .ite (.and_ (.cmp .gt (.bi .len [.var 2]) (.int 1)) (.cmp .eq (.idx (.var 2) (.neg (.gl g_PAIRq1))) (.tup [.var 3, .neg (.var 4)]))) [.set 5 (.call n_passed_of [.var 0, .call n_hand_number [.var 3], .idx (.var 2) (.neg (.int 1)), .var 4])] [], .ite (.cmp .isN (.var 5) .non) [.ext 2 (.lst [.tup [.var 3, .var 4], .gl g_EMPTY])] [.ownE 2 (.sl (.var 2) .nul (.neg (.gl g_PAIRq1))), .setAt 2 (.neg (.int 1)) (.call n_times_of [.idx (.var 2) (.neg (.int 1)), .var 5])]]
def b_tower_of : List Sm := [
  .own 2 [.gl g_EMPTY],
  .forr 0 (.tp [.nm 3, .nm 4]) [.var 1] l_tower_of_0,
  .ret (.bi .tupOf [.var 2])]
def f_tower_of : Fn := ⟨2, 6, b_tower_of, none⟩
/-! tower = tower(machine, word): 0=machine 1=word -/
def b_tower : List Sm := [
  .ex (.call n_check_machine [.var 0]),
  .ex (.call n_check_plain_word [.var 0, .var 1]),
  .ret (.call n_tower_of [.var 0, .var 1])]
def f_tower : Fn := ⟨2, 2, b_tower, none⟩
/-! is_empty_of = is_empty_of(machine, word): 0=machine 1=word -/
def b_is_empty_of : List Sm := [
  .ret (.cmp .eq (.call n_tower_of [.var 0, .var 1]) (.tup [.gl g_EMPTY]))]
def f_is_empty_of : Fn := ⟨2, 2, b_is_empty_of, none⟩
/-! is_empty = is_empty(machine, word): 0=machine 1=word -/
def b_is_empty : List Sm := [
  .ex (.call n_check_machine [.var 0]),
  .ex (.call n_check_plain_word [.var 0, .var 1]),
  .ret (.call n_is_empty_of [.var 0, .var 1])]
def f_is_empty : Fn := ⟨2, 2, b_is_empty, none⟩
/-! law_undone = _law_undone(word): 0=word 1=letter 2=power -/
def e_law_undone_0 : Ex := .tup [.var 1, .bin .sub (.int 0) (.var 2)]
def b_law_undone : List Sm := [
  .ret (.bi .tupOf [.comp 0 e_law_undone_0 (.tp [.nm 1, .nm 2]) [.rev (.var 0)] .nul [1, 2]])]
def f_law_undone : Fn := ⟨1, 3, b_law_undone, none⟩
/-! undone_of = undone_of(word): 0=word 1=letter 2=power -/
def e_undone_of_0 : Ex := .tup [.var 1, .neg (.var 2)]
def b_undone_of : List Sm := [
  .ret (.bi .tupOf [.comp 0 e_undone_of_0 (.tp [.nm 1, .nm 2]) [.rev (.var 0)] .nul [1, 2]])]
def f_undone_of : Fn := ⟨1, 3, b_undone_of, none⟩
/-! alike_of = alike_of(machine, one, other): 0=machine 1=one 2=other -/
def b_alike_of : List Sm := [
  .ret (.call n_is_empty_of [.var 0, .disp 0 [true, true] [.var 1, .call n_undone_of [.var 2]]])]
def f_alike_of : Fn := ⟨3, 3, b_alike_of, none⟩
/-! alike = alike(machine, one, other): 0=machine 1=one 2=other -/
def b_alike : List Sm := [
  .ex (.call n_check_machine [.var 0]),
  .ex (.call n_check_plain_word [.var 0, .var 1]),
  .ex (.call n_check_plain_word [.var 0, .var 2]),
  .ret (.call n_alike_of [.var 0, .var 1, .var 2])]
def f_alike : Fn := ⟨3, 3, b_alike, none⟩
/-! law_bent_syllable = _law_bent_syllable(pot, machine, word): 0=pot 1=machine 2=word 3=at 4=letter 5=power 6=other -/
def b_law_bent_syllable : List Sm := [
  .set 3 (.call n_law_take [.var 0, .bi .len [.var 2]]),
  .tgt (.tp [.nm 4, .nm 5]) (.idx (.var 2) (.var 3)),
  .ite (.cmp .inn (.var 4) (.tup [.str "x", .str "y", .str "t"])) [.set 6 (.tup [.var 4, .bin .add (.var 5) (.call n_law_of [.var 0, .lst [.int 1, .neg (.int 1), .int 2]])]), .ret (.bin .add (.bin .add (.sl (.var 2) .nul (.var 3)) (.ite (.cmp .ne (.idx (.var 6) (.int 1)) (.int 0)) (.tup [.var 6]) (.tup []))) (.sl (.var 2) (.bin .add (.var 3) (.int 1)) .nul))] [],
  .set 6 (.call n_law_hand [.call n_law_take [.var 0, .bi .len [.idx (.var 1) (.str "rows")]]]),
  .ret (.bin .add (.bin .add (.sl (.var 2) .nul (.var 3)) (.tup [.call n_law_of [.var 0, .lst [.tup [.var 4, .bin .sub (.int 0) (.var 5)], .tup [.var 6, .var 5]]]])) (.sl (.var 2) (.bin .add (.var 3) (.int 1)) .nul))]
def f_law_bent_syllable : Fn := ⟨3, 7, b_law_bent_syllable, none⟩
/-! law_form = _law_form(word): 0=word 1=found 2=letter 3=power 4=one -/
def l_law_form_0 : List Sm := [.set 4 (.idx (.dsp [.str "x", .tup [.tup [], .var 3, .int 0], .str "y", .tup [.tup [], .int 0, .var 3], .str "t", .tup [.tup [.tup [.tup [.int 0, .int 0], .var 3]], .int 0, .int 0]]) (.var 2)), .set 1 (.call n_law_form_times [.var 1, .var 4])]
def b_law_form : List Sm := [
  .set 1 (.tup [.tup [], .int 0, .int 0]),
  .forr 0 (.tp [.nm 2, .nm 3]) [.var 0] l_law_form_0,
  .ret (.var 1)]
def f_law_form : Fn := ⟨1, 5, b_law_form, none⟩
/-! law_tower = _law_tower(machine, word): 0=machine 1=word 2=found 3=letter 4=power 5=told -/
def l_law_tower_0 : List Sm := [.ite (.cmp .inn (.var 3) (.tup [.str "x", .str "y", .str "t"])) [.setAt 2 (.neg (.int 1)) (.call n_law_form_times [.idx (.var 2) (.neg (.int 1)), .call n_law_form [.lst [.tup [.var 3, .var 4]]]])] [.set 5 .non, .ite (.and_ (.cmp .gt (.bi .len [.var 2]) (.int 1)) (.cmp .eq (.idx (.var 2) (.neg (.int 2))) (.tup [.var 3, .bin .sub (.int 0) (.var 4)]))) [.set 5 (.call n_law_passed [.var 0, .bi .int [.sl (.var 3) (.int 1) .nul], .idx (.var 2) (.neg (.int 1)), .var 4])] [], .ite (.cmp .isN (.var 5) .non) [.ext 2 (.lst [.tup [.var 3, .var 4], .tup [.tup [], .int 0, .int 0]])] [.ownE 2 (.sl (.var 2) .nul (.neg (.int 2))), .setAt 2 (.neg (.int 1)) (.call n_law_form_times [.idx (.var 2) (.neg (.int 1)), .var 5])]]]
def b_law_tower : List Sm := [
  .own 2 [.tup [.tup [], .int 0, .int 0]],
  .forr 0 (.tp [.nm 3, .nm 4]) [.var 1] l_law_tower_0,
  .ret (.bi .tupOf [.var 2])]
def f_law_tower : Fn := ⟨2, 6, b_law_tower, none⟩
/-! law_is_empty = _law_is_empty(machine, word): 0=machine 1=word -/
def b_law_is_empty : List Sm := [
  .ret (.cmp .eq (.call n_law_tower [.var 0, .var 1]) (.tup [.tup [.tup [], .int 0, .int 0]]))]
def f_law_is_empty : Fn := ⟨2, 2, b_law_is_empty, none⟩
/-! law_right_7 = _law_right(pot): 0=pot 1=machine 2=package 3=lap 4=word 5=form 6=text 7=bend 8=bent 9=is_due -/
def l_law_right_7_0 : List Sm := [.set 8 (.call n_law_bent_syllable [.var 0, .var 1, .var 4]), .ite (.cmp .ne (.bi .repr [.call n_tower [.var 2, .var 8]]) (.bi .repr [.call n_law_tower [.var 1, .var 8]])) [.ret (.bl false)] [], .set 9 (.call n_law_is_empty [.var 1, .bin .add (.var 8) (.call n_law_undone [.var 6])]), .ite (.cmp .ne (.bi .repr [.call n_alike [.var 2, .var 8, .var 6]]) (.bi .repr [.var 9])) [.ret (.bl false)] []]
def l_law_right_7_1 : List Sm := [.tgt (.tp [.nm 4, .nm 5]) (.call n_law_nested_word [.var 0, .var 1, .bin .add (.int 1) (.call n_law_take [.var 0, .int 5])]), .ite (.cmp .ne (.bi .repr [.call n_tower [.var 2, .var 4]]) (.bi .repr [.tup [.var 5]])) [.ret (.bl false)] [], .set 6 (.call n_law_form_word [.var 5]), .ite (.cmp .notN (.call n_is_empty [.var 2, .bin .add (.var 4) (.call n_law_undone [.var 6])]) (.bl true)) [.ret (.bl false)] [], .ite (.cmp .notN (.callK n_alike [] [.var 2, .var 4, .var 6]) (.bl true)) [.ret (.bl false)] [], .forr 1 (.nm 7) [.int 2] l_law_right_7_0]
def b_law_right_7 : List Sm := [
  .set 1 (.call n_law_drawn_machine [.var 0]),
  .set 2 (.call n_law_package [.var 1]),
  .forr 1 (.nm 3) [.int 2] l_law_right_7_1,
  .ret (.bl true)]
def f_law_right_7 : Fn := ⟨1, 10, b_law_right_7, none⟩
/-! law_pot = _law_pot(script, place): 0=script 1=place 2=cell 3=own 4=small -/
def b_law_pot : List Sm := [
  .set 2 (.ite (.cmp .lt (.var 1) (.bi .len [.var 0])) (.idx (.var 0) (.var 1)) (.bin .add (.bin .add (.bin .mod (.bi .int [.bi .sum [.sl (.var 0) .nul (.int 1)]]) (.int 1000003)) (.bin .mul (.int pc_pot1) (.var 1))) (.int pc_pot0))),
  .set 3 (.bin .mul (.bin .mod (.bi .int [.bi .abs [.var 2]]) (.bin .pow (.bin .pow (.int 10) (.int 60)) (.int 5))) (.bi .int [.cmp .ge (.bi .abs [.var 2]) (.bin .pow (.int 10) (.int 18))])),
  .set 4 (.bin .mod (.bi .int [.var 2]) (.int 2305843009213693951)),
  .ret (.shd [.var 3, .bin .mod (.bi .int [.bin .add (.bin .add (.bin .mul (.var 4) (.int pc_pot3)) (.bin .mul (.bin .mul (.int pc_pot4) (.var 1)) (.var 1))) (.int pc_pot2)]) (.int 2305843009213693921), .int 0])]
def f_law_pot : Fn := ⟨2, 5, b_law_pot, none⟩
/-! law_7 = law(script): 0=script 1=place -/
def e_law_7_0 : Ex := .call n_law_right_7 [.call n_law_pot [.var 0, .var 1]]
def b_law_7 : List Sm := [
  .ret (.bi .all [.comp 0 e_law_7_0 (.nm 1) [.call n_law_cells [.var 0, .int 2]] .nul [1]])]
def f_law_7 : Fn := ⟨1, 2, b_law_7, none⟩
def gtab : List (Nat × Tr) := [(g_FEED, .str "\n"), (g_BLANK, .str " "), (g_FIGURES, .str "figures"), (g_PAIR, .int 2), (g_MINUS, .str "-"), (g_FIGURES_2, .str "0123456789"), (g_LEAST_FIGURES, .int 2), (g_MOST_FIGURES, .int 9), (g_SIDES, .tup [.str "left", .str "right"]), (g_ROW, .str "row"), (g_ROW_WORDS, .int 5), (g_END, .tup [.int 0, .int 0]), (g_RIGHT, .str "right"), (g_PAIRq1, .int 2), (g_GROUND, .tup [.str "x", .str "y", .str "t"]), (g_X, .str "x"), (g_Y, .str "y"), (g_K, .str "k"), (g_T, .str "t"), (g_HAND, .str "h"), (g_GROUNDq1, .tup [.str "x", .str "y", .str "t"]), (g_Yq1, .str "y"), (g_Xq1, .str "x"), (g_SIGNS, .tup [.int 1, .int (-1)]), (g_Kq1, .str "k"), (g_EMPTY, .tup [.tup [], .int 0, .int 0])]
def gc : Nat → Option Tr := fun k => gtab.lookup k
def ftab : List (Nat × Fn) := [(n_law_cells, f_law_cells), (n_law_take, f_law_take), (n_law_of, f_law_of), (n_law_some, f_law_some), (n_law_drawn_machine, f_law_drawn_machine), (n_whole_in, f_whole_in), (n_integer_in, f_integer_in), (n_figures_in, f_figures_in), (n_row_in, f_row_in), (n_told_by, f_told_by), (n_Machine, f_Machine), (n_law_machine_text, f_law_machine_text), (n_law_package, f_law_package), (n_law_any_number, f_law_any_number), (n_law_same_moved, f_law_same_moved), (n_law_going_form, f_law_going_form), (n_law_hand, f_law_hand), (n_law_moved_t, f_law_moved_t), (n_law_freed, f_law_freed), (n_law_form_word, f_law_form_word), (n_law_form_times, f_law_form_times), (n_law_form_undone, f_law_form_undone), (n_law_turned, f_law_turned), (n_law_passed, f_law_passed), (n_law_nested_word, f_law_nested_word), (n_check_machine, f_check_machine), (n_is_whole, f_is_whole), (n_is_power_2, f_is_power_2), (n_hand_number, f_hand_number), (n_is_letter, f_is_letter), (n_is_tuple, f_is_tuple), (n_is_syllable, f_is_syllable), (n_is_word, f_is_word), (n_check_word, f_check_word), (n_check_plain_word, f_check_plain_word), (n_put_together, f_put_together), (n_times_of, f_times_of), (n_form_of, f_form_of), (n_lacking, f_lacking), (n_exchanged_row, f_exchanged_row), (n_exchanged_of, f_exchanged_of), (n_lack_of, f_lack_of), (n_carried, f_carried), (n_passed_of, f_passed_of), (n_tower_of, f_tower_of), (n_tower, f_tower), (n_is_empty_of, f_is_empty_of), (n_is_empty, f_is_empty), (n_law_undone, f_law_undone), (n_undone_of, f_undone_of), (n_alike_of, f_alike_of), (n_alike, f_alike), (n_law_bent_syllable, f_law_bent_syllable), (n_law_form, f_law_form), (n_law_tower, f_law_tower), (n_law_is_empty, f_law_is_empty), (n_law_right_7, f_law_right_7), (n_law_pot, f_law_pot), (n_law_7, f_law_7)]
def fs : Nat → Option Fn := fun k => ftab.lookup k
@[simp] theorem C_FEED : gc g_FEED = some (.str "\n") := rfl
@[simp] theorem C_BLANK : gc g_BLANK = some (.str " ") := rfl
@[simp] theorem C_FIGURES : gc g_FIGURES = some (.str "figures") := rfl
@[simp] theorem C_PAIR : gc g_PAIR = some (.int 2) := rfl
@[simp] theorem C_MINUS : gc g_MINUS = some (.str "-") := rfl
@[simp] theorem C_FIGURES_2 : gc g_FIGURES_2 = some (.str "0123456789") := rfl
@[simp] theorem C_LEAST_FIGURES : gc g_LEAST_FIGURES = some (.int 2) := rfl
@[simp] theorem C_MOST_FIGURES : gc g_MOST_FIGURES = some (.int 9) := rfl
@[simp] theorem C_SIDES : gc g_SIDES = some (.tup [.str "left", .str "right"]) := rfl
@[simp] theorem C_ROW : gc g_ROW = some (.str "row") := rfl
@[simp] theorem C_ROW_WORDS : gc g_ROW_WORDS = some (.int 5) := rfl
@[simp] theorem C_END : gc g_END = some (.tup [.int 0, .int 0]) := rfl
@[simp] theorem C_GROUND : gc g_GROUND = some (.tup [.str "x", .str "y", .str "t"]) := rfl
@[simp] theorem C_SIGNS : gc g_SIGNS = some (.tup [.int 1, .int (-1)]) := rfl
@[simp] theorem C_K : gc g_K = some (.str "k") := rfl
@[simp] theorem C_HAND : gc g_HAND = some (.str "h") := rfl
@[simp] theorem C_Kq1 : gc g_Kq1 = some (.str "k") := rfl
@[simp] theorem C_EMPTY : gc g_EMPTY = some (.tup [.tup [], .int 0, .int 0]) := rfl
@[simp] theorem C_GROUNDq1 : gc g_GROUNDq1 = some (.tup [.str "x", .str "y", .str "t"]) := rfl
@[simp] theorem C_X : gc g_X = some (.str "x") := rfl
@[simp] theorem C_Y : gc g_Y = some (.str "y") := rfl
@[simp] theorem C_PAIRq1 : gc g_PAIRq1 = some (.int 2) := rfl
@[simp] theorem C_RIGHT : gc g_RIGHT = some (.str "right") := rfl
@[simp] theorem C_Xq1 : gc g_Xq1 = some (.str "x") := rfl
@[simp] theorem C_Yq1 : gc g_Yq1 = some (.str "y") := rfl
@[simp] theorem C_T : gc g_T = some (.str "t") := rfl
theorem F_law_cells : fs n_law_cells = some f_law_cells := rfl
theorem F_law_take : fs n_law_take = some f_law_take := rfl
theorem F_law_of : fs n_law_of = some f_law_of := rfl
theorem F_law_some : fs n_law_some = some f_law_some := rfl
theorem F_law_drawn_machine : fs n_law_drawn_machine = some f_law_drawn_machine := rfl
theorem F_whole_in : fs n_whole_in = some f_whole_in := rfl
theorem F_integer_in : fs n_integer_in = some f_integer_in := rfl
theorem F_figures_in : fs n_figures_in = some f_figures_in := rfl
theorem F_row_in : fs n_row_in = some f_row_in := rfl
theorem F_told_by : fs n_told_by = some f_told_by := rfl
theorem F_Machine : fs n_Machine = some f_Machine := rfl
theorem F_law_machine_text : fs n_law_machine_text = some f_law_machine_text := rfl
theorem F_law_package : fs n_law_package = some f_law_package := rfl
theorem F_law_any_number : fs n_law_any_number = some f_law_any_number := rfl
theorem F_law_same_moved : fs n_law_same_moved = some f_law_same_moved := rfl
theorem F_law_going_form : fs n_law_going_form = some f_law_going_form := rfl
theorem F_law_hand : fs n_law_hand = some f_law_hand := rfl
theorem F_law_moved_t : fs n_law_moved_t = some f_law_moved_t := rfl
theorem F_law_freed : fs n_law_freed = some f_law_freed := rfl
theorem F_law_form_word : fs n_law_form_word = some f_law_form_word := rfl
theorem F_law_form_times : fs n_law_form_times = some f_law_form_times := rfl
theorem F_law_form_undone : fs n_law_form_undone = some f_law_form_undone := rfl
theorem F_law_turned : fs n_law_turned = some f_law_turned := rfl
theorem F_law_passed : fs n_law_passed = some f_law_passed := rfl
theorem F_law_nested_word : fs n_law_nested_word = some f_law_nested_word := rfl
theorem F_check_machine : fs n_check_machine = some f_check_machine := rfl
theorem F_is_whole : fs n_is_whole = some f_is_whole := rfl
theorem F_is_power_2 : fs n_is_power_2 = some f_is_power_2 := rfl
theorem F_hand_number : fs n_hand_number = some f_hand_number := rfl
theorem F_is_letter : fs n_is_letter = some f_is_letter := rfl
theorem F_is_tuple : fs n_is_tuple = some f_is_tuple := rfl
theorem F_is_syllable : fs n_is_syllable = some f_is_syllable := rfl
theorem F_is_word : fs n_is_word = some f_is_word := rfl
theorem F_check_word : fs n_check_word = some f_check_word := rfl
theorem F_check_plain_word : fs n_check_plain_word = some f_check_plain_word := rfl
theorem F_put_together : fs n_put_together = some f_put_together := rfl
theorem F_times_of : fs n_times_of = some f_times_of := rfl
theorem F_form_of : fs n_form_of = some f_form_of := rfl
theorem F_lacking : fs n_lacking = some f_lacking := rfl
theorem F_exchanged_row : fs n_exchanged_row = some f_exchanged_row := rfl
theorem F_exchanged_of : fs n_exchanged_of = some f_exchanged_of := rfl
theorem F_lack_of : fs n_lack_of = some f_lack_of := rfl
theorem F_carried : fs n_carried = some f_carried := rfl
theorem F_passed_of : fs n_passed_of = some f_passed_of := rfl
theorem F_tower_of : fs n_tower_of = some f_tower_of := rfl
theorem F_tower : fs n_tower = some f_tower := rfl
theorem F_is_empty_of : fs n_is_empty_of = some f_is_empty_of := rfl
theorem F_is_empty : fs n_is_empty = some f_is_empty := rfl
theorem F_law_undone : fs n_law_undone = some f_law_undone := rfl
theorem F_undone_of : fs n_undone_of = some f_undone_of := rfl
theorem F_alike_of : fs n_alike_of = some f_alike_of := rfl
theorem F_alike : fs n_alike = some f_alike := rfl
theorem F_law_bent_syllable : fs n_law_bent_syllable = some f_law_bent_syllable := rfl
theorem F_law_form : fs n_law_form = some f_law_form := rfl
theorem F_law_tower : fs n_law_tower = some f_law_tower := rfl
theorem F_law_is_empty : fs n_law_is_empty = some f_law_is_empty := rfl
theorem F_law_right_7 : fs n_law_right_7 = some f_law_right_7 := rfl
theorem F_law_pot : fs n_law_pot = some f_law_pot := rfl
theorem F_law_7 : fs n_law_7 = some f_law_7 := rfl
end G
/-! Static facts. -/
namespace G
open Ev PySem L2
open PyProof.Rows hiding St
def s_law_cells : Stmt := PySem.Challenge.pw_emptywords_k32_whole_nested_pinches.main.body.getD 76 (.Pass ⟨0, 0, 0, 0⟩)
def i_law_cells : FnI := ⟨"_law_cells", "_law_cells", s_law_cells, ["script", "limit"], ["script", "limit"], none, none⟩
def s_law_take : Stmt := PySem.Challenge.pw_emptywords_k32_whole_nested_pinches.main.body.getD 73 (.Pass ⟨0, 0, 0, 0⟩)
def i_law_take : FnI := ⟨"_law_take", "_law_take", s_law_take, ["pot", "upto", "digit", "prime", "blend"], ["pot", "upto"], none, none⟩
def s_law_of : Stmt := PySem.Challenge.pw_emptywords_k32_whole_nested_pinches.main.body.getD 74 (.Pass ⟨0, 0, 0, 0⟩)
def i_law_of : FnI := ⟨"_law_of", "_law_of", s_law_of, ["pot", "some"], ["pot", "some"], none, none⟩
def s_law_some : Stmt := PySem.Challenge.pw_emptywords_k32_whole_nested_pinches.main.body.getD 75 (.Pass ⟨0, 0, 0, 0⟩)
def i_law_some : FnI := ⟨"_law_some", "_law_some", s_law_some, ["pot", "pool", "many", "stock", "found", "lap"], ["pot", "pool", "many"], none, none⟩
def s_law_drawn_machine : Stmt := PySem.Challenge.pw_emptywords_k32_whole_nested_pinches.main.body.getD 78 (.Pass ⟨0, 0, 0, 0⟩)
def i_law_drawn_machine : FnI := ⟨"_law_drawn_machine", "_law_drawn_machine", s_law_drawn_machine, ["pot", "m", "rows", "rests", "at", "one", "other", "known"], ["pot"], none, none⟩
def s_whole_in : Stmt := PySem.Challenge.pw_emptywords_k32_whole_nested_pinches.main.body.getD 15 (.Pass ⟨0, 0, 0, 0⟩)
def i_whole_in : FnI := ⟨"whole_in", "whole_in", s_whole_in, ["word", "figures", "sign", "found"], ["word"], none, none⟩
def s_integer_in : Stmt := PySem.Challenge.pw_emptywords_k32_whole_nested_pinches.main.body.getD 16 (.Pass ⟨0, 0, 0, 0⟩)
def i_integer_in : FnI := ⟨"integer_in", "integer_in", s_integer_in, ["word", "low", "high", "number"], ["word", "low", "high"], none, none⟩
def s_figures_in : Stmt := PySem.Challenge.pw_emptywords_k32_whole_nested_pinches.main.body.getD 26 (.Pass ⟨0, 0, 0, 0⟩)
def i_figures_in : FnI := ⟨"figures_in", "figures_in", s_figures_in, ["words"], ["words"], none, none⟩
def s_row_in : Stmt := PySem.Challenge.pw_emptywords_k32_whole_nested_pinches.main.body.getD 27 (.Pass ⟨0, 0, 0, 0⟩)
def i_row_in : FnI := ⟨"row_in", "row_in", s_row_in, ["figures", "words", "one", "other", "put"], ["figures", "words"], none, none⟩
def s_told_by : Stmt := PySem.Challenge.pw_emptywords_k32_whole_nested_pinches.main.body.getD 28 (.Pass ⟨0, 0, 0, 0⟩)
def i_told_by : FnI := ⟨"told_by", "told_by", s_told_by, ["text", "lines", "line", "figures", "rows", "known", "number", "words", "row"], ["text"], none, none⟩
def s_Machine : Stmt := (match PySem.Challenge.pw_emptywords_k32_whole_nested_pinches.main.body.getD 29 (.Pass ⟨0, 0, 0, 0⟩) with | .ClassDef _ _ _ b _ _ _ _ _ _ _ => b | _ => []).getD 0 (.Pass ⟨0, 0, 0, 0⟩)
def i_Machine : FnI := ⟨"__init__", "Machine.__init__", s_Machine, ["self", "text", "figures", "rows", "known"], ["self", "text"], some "Machine", none⟩
def s_law_machine_text : Stmt := PySem.Challenge.pw_emptywords_k32_whole_nested_pinches.main.body.getD 77 (.Pass ⟨0, 0, 0, 0⟩)
def i_law_machine_text : FnI := ⟨"_law_machine_text", "_law_machine_text", s_law_machine_text, ["machine", "rows", "one", "row"], ["machine"], none, none⟩
def s_law_package : Stmt := PySem.Challenge.pw_emptywords_k32_whole_nested_pinches.main.body.getD 92 (.Pass ⟨0, 0, 0, 0⟩)
def i_law_package : FnI := ⟨"_law_package", "_law_package", s_law_package, ["machine"], ["machine"], none, none⟩
def s_law_any_number : Stmt := PySem.Challenge.pw_emptywords_k32_whole_nested_pinches.main.body.getD 93 (.Pass ⟨0, 0, 0, 0⟩)
def i_law_any_number : FnI := ⟨"_law_any_number", "_law_any_number", s_law_any_number, ["pot"], ["pot"], none, none⟩
def s_law_same_moved : Stmt := PySem.Challenge.pw_emptywords_k32_whole_nested_pinches.main.body.getD 83 (.Pass ⟨0, 0, 0, 0⟩)
def i_law_same_moved : FnI := ⟨"_law_same_moved", "_law_same_moved", s_law_same_moved, ["rows", "found", "pair", "power"], ["rows"], none, none⟩
def s_law_going_form : Stmt := PySem.Challenge.pw_emptywords_k32_whole_nested_pinches.main.body.getD 94 (.Pass ⟨0, 0, 0, 0⟩)
def i_law_going_form : FnI := ⟨"_law_going_form", "_law_going_form", s_law_going_form, ["pot", "machine", "number", "way", "m", "one", "other", "figure", "side", "moved", "ends", "lap", "u", "v", "pair", "great"], ["pot", "machine", "number", "way"], none, none⟩
def s_law_hand : Stmt := PySem.Challenge.pw_emptywords_k32_whole_nested_pinches.main.body.getD 82 (.Pass ⟨0, 0, 0, 0⟩)
def i_law_hand : FnI := ⟨"_law_hand", "_law_hand", s_law_hand, ["number"], ["number"], none, none⟩
def s_law_moved_t : Stmt := PySem.Challenge.pw_emptywords_k32_whole_nested_pinches.main.body.getD 81 (.Pass ⟨0, 0, 0, 0⟩)
def i_law_moved_t : FnI := ⟨"_law_moved_t", "_law_moved_t", s_law_moved_t, ["pair", "power", "found", "one"], ["pair", "power"], none, none⟩
def s_law_freed : Stmt := PySem.Challenge.pw_emptywords_k32_whole_nested_pinches.main.body.getD 79 (.Pass ⟨0, 0, 0, 0⟩)
def i_law_freed : FnI := ⟨"_law_freed", "_law_freed", s_law_freed, ["word", "found", "letter", "power"], ["word"], none, none⟩
def s_law_form_word : Stmt := PySem.Challenge.pw_emptywords_k32_whole_nested_pinches.main.body.getD 87 (.Pass ⟨0, 0, 0, 0⟩)
def i_law_form_word : FnI := ⟨"_law_form_word", "_law_form_word", s_law_form_word, ["form", "found", "pair", "power"], ["form"], none, none⟩
def s_law_form_times : Stmt := PySem.Challenge.pw_emptywords_k32_whole_nested_pinches.main.body.getD 84 (.Pass ⟨0, 0, 0, 0⟩)
def i_law_form_times : FnI := ⟨"_law_form_times", "_law_form_times", s_law_form_times, ["one", "other", "shifted", "pair", "power"], ["one", "other"], none, none⟩
def s_law_form_undone : Stmt := PySem.Challenge.pw_emptywords_k32_whole_nested_pinches.main.body.getD 86 (.Pass ⟨0, 0, 0, 0⟩)
def i_law_form_undone : FnI := ⟨"_law_form_undone", "_law_form_undone", s_law_form_undone, ["form", "turned", "pair", "power"], ["form"], none, none⟩
def s_law_turned : Stmt := PySem.Challenge.pw_emptywords_k32_whole_nested_pinches.main.body.getD 89 (.Pass ⟨0, 0, 0, 0⟩)
def i_law_turned : FnI := ⟨"_law_turned", "_law_turned", s_law_turned, ["form", "r", "s", "power"], ["form"], none, none⟩
def s_law_passed : Stmt := PySem.Challenge.pw_emptywords_k32_whole_nested_pinches.main.body.getD 88 (.Pass ⟨0, 0, 0, 0⟩)
def i_law_passed : FnI := ⟨"_law_passed", "_law_passed", s_law_passed, ["machine", "number", "form", "way", "m", "one", "other", "figure", "side", "told", "moved", "p", "q", "r", "s", "power"], ["machine", "number", "form", "way"], none, none⟩
def s_law_nested_word : Stmt := PySem.Challenge.pw_emptywords_k32_whole_nested_pinches.main.body.getD 95 (.Pass ⟨0, 0, 0, 0⟩)
def i_law_nested_word : FnI := ⟨"_law_nested_word", "_law_nested_word", s_law_nested_word, ["pot", "machine", "deep", "word", "form", "lap", "number", "way", "goal", "hand", "ahead"], ["pot", "machine", "deep"], none, none⟩
def s_check_machine : Stmt := PySem.Challenge.pw_emptywords_k32_whole_nested_pinches.main.body.getD 30 (.Pass ⟨0, 0, 0, 0⟩)
def i_check_machine : FnI := ⟨"check_machine", "check_machine", s_check_machine, ["value"], ["value"], none, none⟩
def s_is_whole : Stmt := PySem.Challenge.pw_emptywords_k32_whole_nested_pinches.main.body.getD 13 (.Pass ⟨0, 0, 0, 0⟩)
def i_is_whole : FnI := ⟨"is_whole", "is_whole", s_is_whole, ["value"], ["value"], none, none⟩
def s_is_power_2 : Stmt := PySem.Challenge.pw_emptywords_k32_whole_nested_pinches.main.body.getD 41 (.Pass ⟨0, 0, 0, 0⟩)
def i_is_power_2 : FnI := ⟨"is_power", "is_power", s_is_power_2, ["letter", "value"], ["letter", "value"], none, none⟩
def s_hand_number : Stmt := PySem.Challenge.pw_emptywords_k32_whole_nested_pinches.main.body.getD 39 (.Pass ⟨0, 0, 0, 0⟩)
def i_hand_number : FnI := ⟨"hand_number", "hand_number", s_hand_number, ["letter", "number"], ["letter"], none, none⟩
def s_is_letter : Stmt := PySem.Challenge.pw_emptywords_k32_whole_nested_pinches.main.body.getD 40 (.Pass ⟨0, 0, 0, 0⟩)
def i_is_letter : FnI := ⟨"is_letter", "is_letter", s_is_letter, ["machine", "value", "number"], ["machine", "value"], none, none⟩
def s_is_tuple : Stmt := PySem.Challenge.pw_emptywords_k32_whole_nested_pinches.main.body.getD 14 (.Pass ⟨0, 0, 0, 0⟩)
def i_is_tuple : FnI := ⟨"is_tuple", "is_tuple", s_is_tuple, ["value", "least", "most"], ["value", "least", "most"], none, none⟩
def s_is_syllable : Stmt := PySem.Challenge.pw_emptywords_k32_whole_nested_pinches.main.body.getD 42 (.Pass ⟨0, 0, 0, 0⟩)
def i_is_syllable : FnI := ⟨"is_syllable", "is_syllable", s_is_syllable, ["machine", "value"], ["machine", "value"], none, none⟩
def s_is_word : Stmt := PySem.Challenge.pw_emptywords_k32_whole_nested_pinches.main.body.getD 43 (.Pass ⟨0, 0, 0, 0⟩)
def i_is_word : FnI := ⟨"is_word", "is_word", s_is_word, ["machine", "value", "one"], ["machine", "value"], none, none⟩
def s_check_word : Stmt := PySem.Challenge.pw_emptywords_k32_whole_nested_pinches.main.body.getD 44 (.Pass ⟨0, 0, 0, 0⟩)
def i_check_word : FnI := ⟨"check_word", "check_word", s_check_word, ["machine", "value"], ["machine", "value"], none, none⟩
def s_check_plain_word : Stmt := PySem.Challenge.pw_emptywords_k32_whole_nested_pinches.main.body.getD 65 (.Pass ⟨0, 0, 0, 0⟩)
def i_check_plain_word : FnI := ⟨"check_plain_word", "check_plain_word", s_check_plain_word, ["machine", "word", "number", "syllable"], ["machine", "word"], none, none⟩
def s_put_together : Stmt := PySem.Challenge.pw_emptywords_k32_whole_nested_pinches.main.body.getD 48 (.Pass ⟨0, 0, 0, 0⟩)
def i_put_together : FnI := ⟨"put_together", "put_together", s_put_together, ["ts", "found", "pair", "power"], ["ts"], none, none⟩
def s_times_of : Stmt := PySem.Challenge.pw_emptywords_k32_whole_nested_pinches.main.body.getD 49 (.Pass ⟨0, 0, 0, 0⟩)
def i_times_of : FnI := ⟨"times_of", "times_of", s_times_of, ["one", "other", "ts", "first", "second", "later", "pair", "power"], ["one", "other"], none, none⟩
def s_form_of : Stmt := PySem.Challenge.pw_emptywords_k32_whole_nested_pinches.main.body.getD 50 (.Pass ⟨0, 0, 0, 0⟩)
def i_form_of : FnI := ⟨"form_of", "form_of", s_form_of, ["word", "ts", "first", "second", "letter", "power"], ["word"], none, none⟩
def s_lacking : Stmt := PySem.Challenge.pw_emptywords_k32_whole_nested_pinches.main.body.getD 60 (.Pass ⟨0, 0, 0, 0⟩)
def i_lacking : FnI := ⟨"lacking", "lacking", s_lacking, ["figures", "row", "form", "way", "one", "other", "figure", "side", "moved", "along", "up", "great", "pair", "power"], ["figures", "row", "form", "way"], none, none⟩
def s_exchanged_row : Stmt := PySem.Challenge.pw_emptywords_k32_whole_nested_pinches.main.body.getD 59 (.Pass ⟨0, 0, 0, 0⟩)
def i_exchanged_row : FnI := ⟨"exchanged_row", "exchanged_row", s_exchanged_row, ["row", "one", "other", "figure", "side"], ["row"], none, none⟩
def s_exchanged_of : Stmt := PySem.Challenge.pw_emptywords_k32_whole_nested_pinches.main.body.getD 58 (.Pass ⟨0, 0, 0, 0⟩)
def i_exchanged_of : FnI := ⟨"exchanged_of", "exchanged_of", s_exchanged_of, ["form", "moved", "one", "other", "pair", "power"], ["form"], none, none⟩
def s_lack_of : Stmt := PySem.Challenge.pw_emptywords_k32_whole_nested_pinches.main.body.getD 62 (.Pass ⟨0, 0, 0, 0⟩)
def i_lack_of : FnI := ⟨"lack_of", "lack_of", s_lack_of, ["machine", "number", "form", "way", "row", "told", "moved", "along", "up", "mine"], ["machine", "number", "form", "way"], none, none⟩
def s_carried : Stmt := PySem.Challenge.pw_emptywords_k32_whole_nested_pinches.main.body.getD 61 (.Pass ⟨0, 0, 0, 0⟩)
def i_carried : FnI := ⟨"carried", "carried", s_carried, ["figures", "row", "form", "way", "one", "other", "figure", "side", "moved", "along", "up", "great", "found", "pair", "power", "goal"], ["figures", "row", "form", "way"], none, none⟩
def s_passed_of : Stmt := PySem.Challenge.pw_emptywords_k32_whole_nested_pinches.main.body.getD 63 (.Pass ⟨0, 0, 0, 0⟩)
def i_passed_of : FnI := ⟨"passed_of", "passed_of", s_passed_of, ["machine", "number", "form", "way", "row"], ["machine", "number", "form", "way"], none, none⟩
def s_tower_of : Stmt := PySem.Challenge.pw_emptywords_k32_whole_nested_pinches.main.body.getD 64 (.Pass ⟨0, 0, 0, 0⟩)
def i_tower_of : FnI := ⟨"tower_of", "tower_of", s_tower_of, ["machine", "word", "found", "letter", "power", "told"], ["machine", "word"], none, none⟩
def s_tower : Stmt := PySem.Challenge.pw_emptywords_k32_whole_nested_pinches.main.body.getD 66 (.Pass ⟨0, 0, 0, 0⟩)
def i_tower : FnI := ⟨"tower", "tower", s_tower, ["machine", "word"], ["machine", "word"], none, none⟩
def s_is_empty_of : Stmt := PySem.Challenge.pw_emptywords_k32_whole_nested_pinches.main.body.getD 67 (.Pass ⟨0, 0, 0, 0⟩)
def i_is_empty_of : FnI := ⟨"is_empty_of", "is_empty_of", s_is_empty_of, ["machine", "word"], ["machine", "word"], none, none⟩
def s_is_empty : Stmt := PySem.Challenge.pw_emptywords_k32_whole_nested_pinches.main.body.getD 68 (.Pass ⟨0, 0, 0, 0⟩)
def i_is_empty : FnI := ⟨"is_empty", "is_empty", s_is_empty, ["machine", "word"], ["machine", "word"], none, none⟩
def s_law_undone : Stmt := PySem.Challenge.pw_emptywords_k32_whole_nested_pinches.main.body.getD 80 (.Pass ⟨0, 0, 0, 0⟩)
def i_law_undone : FnI := ⟨"_law_undone", "_law_undone", s_law_undone, ["word", "letter", "power"], ["word"], none, none⟩
def s_undone_of : Stmt := PySem.Challenge.pw_emptywords_k32_whole_nested_pinches.main.body.getD 45 (.Pass ⟨0, 0, 0, 0⟩)
def i_undone_of : FnI := ⟨"undone_of", "undone_of", s_undone_of, ["word", "letter", "power"], ["word"], none, none⟩
def s_alike_of : Stmt := PySem.Challenge.pw_emptywords_k32_whole_nested_pinches.main.body.getD 69 (.Pass ⟨0, 0, 0, 0⟩)
def i_alike_of : FnI := ⟨"alike_of", "alike_of", s_alike_of, ["machine", "one", "other"], ["machine", "one", "other"], none, none⟩
def s_alike : Stmt := PySem.Challenge.pw_emptywords_k32_whole_nested_pinches.main.body.getD 70 (.Pass ⟨0, 0, 0, 0⟩)
def i_alike : FnI := ⟨"alike", "alike", s_alike, ["machine", "one", "other"], ["machine", "one", "other"], none, none⟩
def s_law_bent_syllable : Stmt := PySem.Challenge.pw_emptywords_k32_whole_nested_pinches.main.body.getD 96 (.Pass ⟨0, 0, 0, 0⟩)
def i_law_bent_syllable : FnI := ⟨"_law_bent_syllable", "_law_bent_syllable", s_law_bent_syllable, ["pot", "machine", "word", "at", "letter", "power", "other"], ["pot", "machine", "word"], none, none⟩
def s_law_form : Stmt := PySem.Challenge.pw_emptywords_k32_whole_nested_pinches.main.body.getD 85 (.Pass ⟨0, 0, 0, 0⟩)
def i_law_form : FnI := ⟨"_law_form", "_law_form", s_law_form, ["word", "found", "letter", "power", "one"], ["word"], none, none⟩
def s_law_tower : Stmt := PySem.Challenge.pw_emptywords_k32_whole_nested_pinches.main.body.getD 90 (.Pass ⟨0, 0, 0, 0⟩)
def i_law_tower : FnI := ⟨"_law_tower", "_law_tower", s_law_tower, ["machine", "word", "found", "letter", "power", "told"], ["machine", "word"], none, none⟩
def s_law_is_empty : Stmt := PySem.Challenge.pw_emptywords_k32_whole_nested_pinches.main.body.getD 91 (.Pass ⟨0, 0, 0, 0⟩)
def i_law_is_empty : FnI := ⟨"_law_is_empty", "_law_is_empty", s_law_is_empty, ["machine", "word"], ["machine", "word"], none, none⟩
def s_law_right_7 : Stmt := PySem.Challenge.pw_emptywords_k32_whole_nested_pinches.main.body.getD 97 (.Pass ⟨0, 0, 0, 0⟩)
def i_law_right_7 : FnI := ⟨"_law_right", "_law_right", s_law_right_7, ["pot", "machine", "package", "lap", "word", "form", "text", "bend", "bent", "is_due"], ["pot"], none, none⟩
def s_law_pot : Stmt := PySem.Challenge.pw_emptywords_k32_whole_nested_pinches.main.body.getD 72 (.Pass ⟨0, 0, 0, 0⟩)
def i_law_pot : FnI := ⟨"_law_pot", "_law_pot", s_law_pot, ["script", "place", "cell", "own", "small"], ["script", "place"], none, none⟩
def s_law_7 : Stmt := PySem.Challenge.pw_emptywords_k32_whole_nested_pinches.main.body.getD 98 (.Pass ⟨0, 0, 0, 0⟩)
def i_law_7 : FnI := ⟨"law", "law", s_law_7, ["script", "place"], ["script"], none, none⟩
def is : List (Nat × FnI) := [(n_law_cells, i_law_cells), (n_law_take, i_law_take), (n_law_of, i_law_of), (n_law_some, i_law_some), (n_law_drawn_machine, i_law_drawn_machine), (n_whole_in, i_whole_in), (n_integer_in, i_integer_in), (n_figures_in, i_figures_in), (n_row_in, i_row_in), (n_told_by, i_told_by), (n_Machine, i_Machine), (n_law_machine_text, i_law_machine_text), (n_law_package, i_law_package), (n_law_any_number, i_law_any_number), (n_law_same_moved, i_law_same_moved), (n_law_going_form, i_law_going_form), (n_law_hand, i_law_hand), (n_law_moved_t, i_law_moved_t), (n_law_freed, i_law_freed), (n_law_form_word, i_law_form_word), (n_law_form_times, i_law_form_times), (n_law_form_undone, i_law_form_undone), (n_law_turned, i_law_turned), (n_law_passed, i_law_passed), (n_law_nested_word, i_law_nested_word), (n_check_machine, i_check_machine), (n_is_whole, i_is_whole), (n_is_power_2, i_is_power_2), (n_hand_number, i_hand_number), (n_is_letter, i_is_letter), (n_is_tuple, i_is_tuple), (n_is_syllable, i_is_syllable), (n_is_word, i_is_word), (n_check_word, i_check_word), (n_check_plain_word, i_check_plain_word), (n_put_together, i_put_together), (n_times_of, i_times_of), (n_form_of, i_form_of), (n_lacking, i_lacking), (n_exchanged_row, i_exchanged_row), (n_exchanged_of, i_exchanged_of), (n_lack_of, i_lack_of), (n_carried, i_carried), (n_passed_of, i_passed_of), (n_tower_of, i_tower_of), (n_tower, i_tower), (n_is_empty_of, i_is_empty_of), (n_is_empty, i_is_empty), (n_law_undone, i_law_undone), (n_undone_of, i_undone_of), (n_alike_of, i_alike_of), (n_alike, i_alike), (n_law_bent_syllable, i_law_bent_syllable), (n_law_form, i_law_form), (n_law_tower, i_law_tower), (n_law_is_empty, i_law_is_empty), (n_law_right_7, i_law_right_7), (n_law_pot, i_law_pot), (n_law_7, i_law_7)]
def D : Ds := ⟨[(n_law_cells, ("_law_cells" : Str)), (n_law_take, ("_law_take" : Str)), (n_law_of, ("_law_of" : Str)), (n_law_some, ("_law_some" : Str)), (n_law_drawn_machine, ("_law_drawn_machine" : Str)), (n_whole_in, ("whole_in" : Str)), (n_integer_in, ("integer_in" : Str)), (n_figures_in, ("figures_in" : Str)), (n_row_in, ("row_in" : Str)), (n_told_by, ("told_by" : Str)), (n_law_machine_text, ("_law_machine_text" : Str)), (n_law_package, ("_law_package" : Str)), (n_law_any_number, ("_law_any_number" : Str)), (n_law_same_moved, ("_law_same_moved" : Str)), (n_law_going_form, ("_law_going_form" : Str)), (n_law_hand, ("_law_hand" : Str)), (n_law_moved_t, ("_law_moved_t" : Str)), (n_law_freed, ("_law_freed" : Str)), (n_law_form_word, ("_law_form_word" : Str)), (n_law_form_times, ("_law_form_times" : Str)), (n_law_form_undone, ("_law_form_undone" : Str)), (n_law_turned, ("_law_turned" : Str)), (n_law_passed, ("_law_passed" : Str)), (n_law_nested_word, ("_law_nested_word" : Str)), (n_check_machine, ("check_machine" : Str)), (n_is_whole, ("is_whole" : Str)), (n_is_power_2, ("is_power" : Str)), (n_hand_number, ("hand_number" : Str)), (n_is_letter, ("is_letter" : Str)), (n_is_tuple, ("is_tuple" : Str)), (n_is_syllable, ("is_syllable" : Str)), (n_is_word, ("is_word" : Str)), (n_check_word, ("check_word" : Str)), (n_check_plain_word, ("check_plain_word" : Str)), (n_put_together, ("put_together" : Str)), (n_times_of, ("times_of" : Str)), (n_form_of, ("form_of" : Str)), (n_lacking, ("lacking" : Str)), (n_exchanged_row, ("exchanged_row" : Str)), (n_exchanged_of, ("exchanged_of" : Str)), (n_lack_of, ("lack_of" : Str)), (n_carried, ("carried" : Str)), (n_passed_of, ("passed_of" : Str)), (n_tower_of, ("tower_of" : Str)), (n_tower, ("tower" : Str)), (n_is_empty_of, ("is_empty_of" : Str)), (n_is_empty, ("is_empty" : Str)), (n_law_undone, ("_law_undone" : Str)), (n_undone_of, ("undone_of" : Str)), (n_alike_of, ("alike_of" : Str)), (n_alike, ("alike" : Str)), (n_law_bent_syllable, ("_law_bent_syllable" : Str)), (n_law_form, ("_law_form" : Str)), (n_law_tower, ("_law_tower" : Str)), (n_law_is_empty, ("_law_is_empty" : Str)), (n_law_right_7, ("_law_right" : Str)), (n_law_pot, ("_law_pot" : Str)), (n_law_7, ("law" : Str))], [(n_Machine, ("Machine" : Str))], [(g_FEED, ("FEED" : Str)), (g_BLANK, ("BLANK" : Str)), (g_FIGURES, ("FIGURES_pairs" : Str)), (g_PAIR, ("PAIR_plain" : Str)), (g_MINUS, ("MINUS" : Str)), (g_FIGURES_2, ("FIGURES_plain" : Str)), (g_LEAST_FIGURES, ("LEAST_FIGURES" : Str)), (g_MOST_FIGURES, ("MOST_FIGURES" : Str)), (g_SIDES, ("SIDES" : Str)), (g_ROW, ("ROW" : Str)), (g_ROW_WORDS, ("ROW_WORDS" : Str)), (g_END, ("END" : Str)), (g_GROUND, ("GROUND_words" : Str)), (g_SIGNS, ("SIGNS" : Str)), (g_K, ("K_words" : Str)), (g_HAND, ("HAND" : Str)), (g_Kq1, ("K_hands" : Str)), (g_EMPTY, ("EMPTY" : Str)), (g_GROUNDq1, ("GROUND_hands" : Str)), (g_X, ("X_words" : Str)), (g_Y, ("Y_words" : Str)), (g_PAIRq1, ("PAIR_hands" : Str)), (g_RIGHT, ("RIGHT" : Str)), (g_Xq1, ("X_hands" : Str)), (g_Yq1, ("Y_hands" : Str)), (g_T, ("T_hands" : Str))], [("all" : Str), ("list" : Str), ("range" : Str), ("max" : Str), ("min" : Str), ("len" : Str), ("int" : Str), ("isinstance" : Str), ("str" : Str), ("enumerate" : Str), ("tuple" : Str), ("any" : Str), ("repr" : Str), ("bool" : Str), ("sum" : Str), ("abs" : Str)], [(n_law_cells, [("script" : Str), ("limit" : Str)]), (n_law_take, [("pot" : Str), ("upto" : Str)]), (n_law_of, [("pot" : Str), ("some" : Str)]), (n_law_some, [("pot" : Str), ("pool" : Str), ("many" : Str)]), (n_law_drawn_machine, [("pot" : Str)]), (n_whole_in, [("word" : Str)]), (n_integer_in, [("word" : Str), ("low" : Str), ("high" : Str)]), (n_figures_in, [("words" : Str)]), (n_row_in, [("figures" : Str), ("words" : Str)]), (n_told_by, [("text" : Str)]), (n_Machine, [("self" : Str), ("text" : Str)]), (n_law_machine_text, [("machine" : Str)]), (n_law_package, [("machine" : Str)]), (n_law_any_number, [("pot" : Str)]), (n_law_same_moved, [("rows" : Str)]), (n_law_going_form, [("pot" : Str), ("machine" : Str), ("number" : Str), ("way" : Str)]), (n_law_hand, [("number" : Str)]), (n_law_moved_t, [("pair" : Str), ("power" : Str)]), (n_law_freed, [("word" : Str)]), (n_law_form_word, [("form" : Str)]), (n_law_form_times, [("one" : Str), ("other" : Str)]), (n_law_form_undone, [("form" : Str)]), (n_law_turned, [("form" : Str)]), (n_law_passed, [("machine" : Str), ("number" : Str), ("form" : Str), ("way" : Str)]), (n_law_nested_word, [("pot" : Str), ("machine" : Str), ("deep" : Str)]), (n_check_machine, [("value" : Str)]), (n_is_whole, [("value" : Str)]), (n_is_power_2, [("letter" : Str), ("value" : Str)]), (n_hand_number, [("letter" : Str)]), (n_is_letter, [("machine" : Str), ("value" : Str)]), (n_is_tuple, [("value" : Str), ("least" : Str), ("most" : Str)]), (n_is_syllable, [("machine" : Str), ("value" : Str)]), (n_is_word, [("machine" : Str), ("value" : Str)]), (n_check_word, [("machine" : Str), ("value" : Str)]), (n_check_plain_word, [("machine" : Str), ("word" : Str)]), (n_put_together, [("ts" : Str)]), (n_times_of, [("one" : Str), ("other" : Str)]), (n_form_of, [("word" : Str)]), (n_lacking, [("figures" : Str), ("row" : Str), ("form" : Str), ("way" : Str)]), (n_exchanged_row, [("row" : Str)]), (n_exchanged_of, [("form" : Str)]), (n_lack_of, [("machine" : Str), ("number" : Str), ("form" : Str), ("way" : Str)]), (n_carried, [("figures" : Str), ("row" : Str), ("form" : Str), ("way" : Str)]), (n_passed_of, [("machine" : Str), ("number" : Str), ("form" : Str), ("way" : Str)]), (n_tower_of, [("machine" : Str), ("word" : Str)]), (n_tower, [("machine" : Str), ("word" : Str)]), (n_is_empty_of, [("machine" : Str), ("word" : Str)]), (n_is_empty, [("machine" : Str), ("word" : Str)]), (n_law_undone, [("word" : Str)]), (n_undone_of, [("word" : Str)]), (n_alike_of, [("machine" : Str), ("one" : Str), ("other" : Str)]), (n_alike, [("machine" : Str), ("one" : Str), ("other" : Str)]), (n_law_bent_syllable, [("pot" : Str), ("machine" : Str), ("word" : Str)]), (n_law_form, [("word" : Str)]), (n_law_tower, [("machine" : Str), ("word" : Str)]), (n_law_is_empty, [("machine" : Str), ("word" : Str)]), (n_law_right_7, [("pot" : Str)]), (n_law_pot, [("script" : Str), ("place" : Str)]), (n_law_7, [("script" : Str)])], [("Machine" : Str)], [("own_text" : Str), ("own_figures" : Str), ("own_rows" : Str), ("own_by_rests" : Str)], []⟩
theorem S_law_cells : FnS D i_law_cells f_law_cells := ⟨⟨rfl, rfl, rfl, by decide +kernel, rfl, by decide +kernel, by decide +kernel⟩, by decide +kernel, rfl, rfl, rfl, fun _ _ _ _ _ _ us ws hl => match us, ws, hl with | [], [_, _], _ => rfl | [_], [_], _ => rfl | [_, _], [], _ => rfl, fun _ _ _ h => nomatch h⟩
theorem S_law_take : FnS D i_law_take f_law_take := ⟨⟨rfl, rfl, rfl, by decide +kernel, rfl, by decide +kernel, by decide +kernel⟩, by decide +kernel, rfl, rfl, rfl, fun _ _ _ _ _ _ us ws hl => match us, ws, hl with | [], [_, _], _ => rfl | [_], [_], _ => rfl | [_, _], [], _ => rfl, fun _ _ _ h => nomatch h⟩
theorem S_law_of : FnS D i_law_of f_law_of := ⟨⟨rfl, rfl, rfl, by decide +kernel, rfl, by decide +kernel, by decide +kernel⟩, by decide +kernel, rfl, rfl, rfl, fun _ _ _ _ _ _ us ws hl => match us, ws, hl with | [], [_, _], _ => rfl | [_], [_], _ => rfl | [_, _], [], _ => rfl, fun _ _ _ h => nomatch h⟩
theorem S_law_some : FnS D i_law_some f_law_some := ⟨⟨rfl, rfl, rfl, by decide +kernel, rfl, by decide +kernel, by decide +kernel⟩, by decide +kernel, rfl, rfl, rfl, fun _ _ _ _ _ _ us ws hl => match us, ws, hl with | [], [_, _, _], _ => rfl | [_], [_, _], _ => rfl | [_, _], [_], _ => rfl | [_, _, _], [], _ => rfl, fun _ _ _ h => nomatch h⟩
theorem S_law_drawn_machine : FnS D i_law_drawn_machine f_law_drawn_machine := ⟨⟨rfl, rfl, rfl, by decide +kernel, rfl, by decide +kernel, by decide +kernel⟩, by decide +kernel, rfl, rfl, rfl, fun _ _ _ _ _ _ us ws hl => match us, ws, hl with | [], [_], _ => rfl | [_], [], _ => rfl, fun _ _ _ h => nomatch h⟩
theorem S_whole_in : FnS D i_whole_in f_whole_in := ⟨⟨rfl, rfl, rfl, by decide +kernel, rfl, by decide +kernel, by decide +kernel⟩, by decide +kernel, rfl, rfl, rfl, fun _ _ _ _ _ _ us ws hl => match us, ws, hl with | [], [_], _ => rfl | [_], [], _ => rfl, fun _ _ _ h => nomatch h⟩
theorem S_integer_in : FnS D i_integer_in f_integer_in := ⟨⟨rfl, rfl, rfl, by decide +kernel, rfl, by decide +kernel, by decide +kernel⟩, by decide +kernel, rfl, rfl, rfl, fun _ _ _ _ _ _ us ws hl => match us, ws, hl with | [], [_, _, _], _ => rfl | [_], [_, _], _ => rfl | [_, _], [_], _ => rfl | [_, _, _], [], _ => rfl, fun _ _ _ h => nomatch h⟩
theorem S_figures_in : FnS D i_figures_in f_figures_in := ⟨⟨rfl, rfl, rfl, by decide +kernel, rfl, by decide +kernel, by decide +kernel⟩, by decide +kernel, rfl, rfl, rfl, fun _ _ _ _ _ _ us ws hl => match us, ws, hl with | [], [_], _ => rfl | [_], [], _ => rfl, fun _ _ _ h => nomatch h⟩
theorem S_row_in : FnS D i_row_in f_row_in := ⟨⟨rfl, rfl, rfl, by decide +kernel, rfl, by decide +kernel, by decide +kernel⟩, by decide +kernel, rfl, rfl, rfl, fun _ _ _ _ _ _ us ws hl => match us, ws, hl with | [], [_, _], _ => rfl | [_], [_], _ => rfl | [_, _], [], _ => rfl, fun _ _ _ h => nomatch h⟩
theorem S_told_by : FnS D i_told_by f_told_by := ⟨⟨rfl, rfl, rfl, by decide +kernel, rfl, by decide +kernel, by decide +kernel⟩, by decide +kernel, rfl, rfl, rfl, fun _ _ _ _ _ _ us ws hl => match us, ws, hl with | [], [_], _ => rfl | [_], [], _ => rfl, fun _ _ _ h => nomatch h⟩
theorem S_Machine : FnS D i_Machine f_Machine := ⟨⟨rfl, rfl, rfl, by decide +kernel, rfl, by decide +kernel, by decide +kernel⟩, by decide +kernel, rfl, rfl, rfl, fun _ _ _ _ _ _ us ws hl => match us, ws, hl with | [], [_, _], _ => rfl | [_], [_], _ => rfl | [_, _], [], _ => rfl, fun _ _ _ h => nomatch h⟩
theorem S_law_machine_text : FnS D i_law_machine_text f_law_machine_text := ⟨⟨rfl, rfl, rfl, by decide +kernel, rfl, by decide +kernel, by decide +kernel⟩, by decide +kernel, rfl, rfl, rfl, fun _ _ _ _ _ _ us ws hl => match us, ws, hl with | [], [_], _ => rfl | [_], [], _ => rfl, fun _ _ _ h => nomatch h⟩
theorem S_law_package : FnS D i_law_package f_law_package := ⟨⟨rfl, rfl, rfl, by decide +kernel, rfl, by decide +kernel, by decide +kernel⟩, by decide +kernel, rfl, rfl, rfl, fun _ _ _ _ _ _ us ws hl => match us, ws, hl with | [], [_], _ => rfl | [_], [], _ => rfl, fun _ _ _ h => nomatch h⟩
theorem S_law_any_number : FnS D i_law_any_number f_law_any_number := ⟨⟨rfl, rfl, rfl, by decide +kernel, rfl, by decide +kernel, by decide +kernel⟩, by decide +kernel, rfl, rfl, rfl, fun _ _ _ _ _ _ us ws hl => match us, ws, hl with | [], [_], _ => rfl | [_], [], _ => rfl, fun _ _ _ h => nomatch h⟩
theorem S_law_same_moved : FnS D i_law_same_moved f_law_same_moved := ⟨⟨rfl, rfl, rfl, by decide +kernel, rfl, by decide +kernel, by decide +kernel⟩, by decide +kernel, rfl, rfl, rfl, fun _ _ _ _ _ _ us ws hl => match us, ws, hl with | [], [_], _ => rfl | [_], [], _ => rfl, fun _ _ _ h => nomatch h⟩
theorem S_law_going_form : FnS D i_law_going_form f_law_going_form := ⟨⟨rfl, rfl, rfl, by decide +kernel, rfl, by decide +kernel, by decide +kernel⟩, by decide +kernel, rfl, rfl, rfl, fun _ _ _ _ _ _ us ws hl => match us, ws, hl with | [], [_, _, _, _], _ => rfl | [_], [_, _, _], _ => rfl | [_, _], [_, _], _ => rfl | [_, _, _], [_], _ => rfl | [_, _, _, _], [], _ => rfl, fun _ _ _ h => nomatch h⟩
theorem S_law_hand : FnS D i_law_hand f_law_hand := ⟨⟨rfl, rfl, rfl, by decide +kernel, rfl, by decide +kernel, by decide +kernel⟩, by decide +kernel, rfl, rfl, rfl, fun _ _ _ _ _ _ us ws hl => match us, ws, hl with | [], [_], _ => rfl | [_], [], _ => rfl, fun _ _ _ h => nomatch h⟩
theorem S_law_moved_t : FnS D i_law_moved_t f_law_moved_t := ⟨⟨rfl, rfl, rfl, by decide +kernel, rfl, by decide +kernel, by decide +kernel⟩, by decide +kernel, rfl, rfl, rfl, fun _ _ _ _ _ _ us ws hl => match us, ws, hl with | [], [_, _], _ => rfl | [_], [_], _ => rfl | [_, _], [], _ => rfl, fun _ _ _ h => nomatch h⟩
theorem S_law_freed : FnS D i_law_freed f_law_freed := ⟨⟨rfl, rfl, rfl, by decide +kernel, rfl, by decide +kernel, by decide +kernel⟩, by decide +kernel, rfl, rfl, rfl, fun _ _ _ _ _ _ us ws hl => match us, ws, hl with | [], [_], _ => rfl | [_], [], _ => rfl, fun _ _ _ h => nomatch h⟩
theorem S_law_form_word : FnS D i_law_form_word f_law_form_word := ⟨⟨rfl, rfl, rfl, by decide +kernel, rfl, by decide +kernel, by decide +kernel⟩, by decide +kernel, rfl, rfl, rfl, fun _ _ _ _ _ _ us ws hl => match us, ws, hl with | [], [_], _ => rfl | [_], [], _ => rfl, fun _ _ _ h => nomatch h⟩
theorem S_law_form_times : FnS D i_law_form_times f_law_form_times := ⟨⟨rfl, rfl, rfl, by decide +kernel, rfl, by decide +kernel, by decide +kernel⟩, by decide +kernel, rfl, rfl, rfl, fun _ _ _ _ _ _ us ws hl => match us, ws, hl with | [], [_, _], _ => rfl | [_], [_], _ => rfl | [_, _], [], _ => rfl, fun _ _ _ h => nomatch h⟩
theorem S_law_form_undone : FnS D i_law_form_undone f_law_form_undone := ⟨⟨rfl, rfl, rfl, by decide +kernel, rfl, by decide +kernel, by decide +kernel⟩, by decide +kernel, rfl, rfl, rfl, fun _ _ _ _ _ _ us ws hl => match us, ws, hl with | [], [_], _ => rfl | [_], [], _ => rfl, fun _ _ _ h => nomatch h⟩
theorem S_law_turned : FnS D i_law_turned f_law_turned := ⟨⟨rfl, rfl, rfl, by decide +kernel, rfl, by decide +kernel, by decide +kernel⟩, by decide +kernel, rfl, rfl, rfl, fun _ _ _ _ _ _ us ws hl => match us, ws, hl with | [], [_], _ => rfl | [_], [], _ => rfl, fun _ _ _ h => nomatch h⟩
theorem S_law_passed : FnS D i_law_passed f_law_passed := ⟨⟨rfl, rfl, rfl, by decide +kernel, rfl, by decide +kernel, by decide +kernel⟩, by decide +kernel, rfl, rfl, rfl, fun _ _ _ _ _ _ us ws hl => match us, ws, hl with | [], [_, _, _, _], _ => rfl | [_], [_, _, _], _ => rfl | [_, _], [_, _], _ => rfl | [_, _, _], [_], _ => rfl | [_, _, _, _], [], _ => rfl, fun _ _ _ h => nomatch h⟩
theorem S_law_nested_word : FnS D i_law_nested_word f_law_nested_word := ⟨⟨rfl, rfl, rfl, by decide +kernel, rfl, by decide +kernel, by decide +kernel⟩, by decide +kernel, rfl, rfl, rfl, fun _ _ _ _ _ _ us ws hl => match us, ws, hl with | [], [_, _, _], _ => rfl | [_], [_, _], _ => rfl | [_, _], [_], _ => rfl | [_, _, _], [], _ => rfl, fun _ _ _ h => nomatch h⟩
theorem S_check_machine : FnS D i_check_machine f_check_machine := ⟨⟨rfl, rfl, rfl, by decide +kernel, rfl, by decide +kernel, by decide +kernel⟩, by decide +kernel, rfl, rfl, rfl, fun _ _ _ _ _ _ us ws hl => match us, ws, hl with | [], [_], _ => rfl | [_], [], _ => rfl, fun _ _ _ h => nomatch h⟩
theorem S_is_whole : FnS D i_is_whole f_is_whole := ⟨⟨rfl, rfl, rfl, by decide +kernel, rfl, by decide +kernel, by decide +kernel⟩, by decide +kernel, rfl, rfl, rfl, fun _ _ _ _ _ _ us ws hl => match us, ws, hl with | [], [_], _ => rfl | [_], [], _ => rfl, fun _ _ _ h => nomatch h⟩
theorem S_is_power_2 : FnS D i_is_power_2 f_is_power_2 := ⟨⟨rfl, rfl, rfl, by decide +kernel, rfl, by decide +kernel, by decide +kernel⟩, by decide +kernel, rfl, rfl, rfl, fun _ _ _ _ _ _ us ws hl => match us, ws, hl with | [], [_, _], _ => rfl | [_], [_], _ => rfl | [_, _], [], _ => rfl, fun _ _ _ h => nomatch h⟩
theorem S_hand_number : FnS D i_hand_number f_hand_number := ⟨⟨rfl, rfl, rfl, by decide +kernel, rfl, by decide +kernel, by decide +kernel⟩, by decide +kernel, rfl, rfl, rfl, fun _ _ _ _ _ _ us ws hl => match us, ws, hl with | [], [_], _ => rfl | [_], [], _ => rfl, fun _ _ _ h => nomatch h⟩
theorem S_is_letter : FnS D i_is_letter f_is_letter := ⟨⟨rfl, rfl, rfl, by decide +kernel, rfl, by decide +kernel, by decide +kernel⟩, by decide +kernel, rfl, rfl, rfl, fun _ _ _ _ _ _ us ws hl => match us, ws, hl with | [], [_, _], _ => rfl | [_], [_], _ => rfl | [_, _], [], _ => rfl, fun _ _ _ h => nomatch h⟩
theorem S_is_tuple : FnS D i_is_tuple f_is_tuple := ⟨⟨rfl, rfl, rfl, by decide +kernel, rfl, by decide +kernel, by decide +kernel⟩, by decide +kernel, rfl, rfl, rfl, fun _ _ _ _ _ _ us ws hl => match us, ws, hl with | [], [_, _, _], _ => rfl | [_], [_, _], _ => rfl | [_, _], [_], _ => rfl | [_, _, _], [], _ => rfl, fun _ _ _ h => nomatch h⟩
theorem S_is_syllable : FnS D i_is_syllable f_is_syllable := ⟨⟨rfl, rfl, rfl, by decide +kernel, rfl, by decide +kernel, by decide +kernel⟩, by decide +kernel, rfl, rfl, rfl, fun _ _ _ _ _ _ us ws hl => match us, ws, hl with | [], [_, _], _ => rfl | [_], [_], _ => rfl | [_, _], [], _ => rfl, fun _ _ _ h => nomatch h⟩
theorem S_is_word : FnS D i_is_word f_is_word := ⟨⟨rfl, rfl, rfl, by decide +kernel, rfl, by decide +kernel, by decide +kernel⟩, by decide +kernel, rfl, rfl, rfl, fun _ _ _ _ _ _ us ws hl => match us, ws, hl with | [], [_, _], _ => rfl | [_], [_], _ => rfl | [_, _], [], _ => rfl, fun _ _ _ h => nomatch h⟩
theorem S_check_word : FnS D i_check_word f_check_word := ⟨⟨rfl, rfl, rfl, by decide +kernel, rfl, by decide +kernel, by decide +kernel⟩, by decide +kernel, rfl, rfl, rfl, fun _ _ _ _ _ _ us ws hl => match us, ws, hl with | [], [_, _], _ => rfl | [_], [_], _ => rfl | [_, _], [], _ => rfl, fun _ _ _ h => nomatch h⟩
theorem S_check_plain_word : FnS D i_check_plain_word f_check_plain_word := ⟨⟨rfl, rfl, rfl, by decide +kernel, rfl, by decide +kernel, by decide +kernel⟩, by decide +kernel, rfl, rfl, rfl, fun _ _ _ _ _ _ us ws hl => match us, ws, hl with | [], [_, _], _ => rfl | [_], [_], _ => rfl | [_, _], [], _ => rfl, fun _ _ _ h => nomatch h⟩
theorem S_put_together : FnS D i_put_together f_put_together := ⟨⟨rfl, rfl, rfl, by decide +kernel, rfl, by decide +kernel, by decide +kernel⟩, by decide +kernel, rfl, rfl, rfl, fun _ _ _ _ _ _ us ws hl => match us, ws, hl with | [], [_], _ => rfl | [_], [], _ => rfl, fun _ _ _ h => nomatch h⟩
theorem S_times_of : FnS D i_times_of f_times_of := ⟨⟨rfl, rfl, rfl, by decide +kernel, rfl, by decide +kernel, by decide +kernel⟩, by decide +kernel, rfl, rfl, rfl, fun _ _ _ _ _ _ us ws hl => match us, ws, hl with | [], [_, _], _ => rfl | [_], [_], _ => rfl | [_, _], [], _ => rfl, fun _ _ _ h => nomatch h⟩
theorem S_form_of : FnS D i_form_of f_form_of := ⟨⟨rfl, rfl, rfl, by decide +kernel, rfl, by decide +kernel, by decide +kernel⟩, by decide +kernel, rfl, rfl, rfl, fun _ _ _ _ _ _ us ws hl => match us, ws, hl with | [], [_], _ => rfl | [_], [], _ => rfl, fun _ _ _ h => nomatch h⟩
theorem S_lacking : FnS D i_lacking f_lacking := ⟨⟨rfl, rfl, rfl, by decide +kernel, rfl, by decide +kernel, by decide +kernel⟩, by decide +kernel, rfl, rfl, rfl, fun _ _ _ _ _ _ us ws hl => match us, ws, hl with | [], [_, _, _, _], _ => rfl | [_], [_, _, _], _ => rfl | [_, _], [_, _], _ => rfl | [_, _, _], [_], _ => rfl | [_, _, _, _], [], _ => rfl, fun _ _ _ h => nomatch h⟩
theorem S_exchanged_row : FnS D i_exchanged_row f_exchanged_row := ⟨⟨rfl, rfl, rfl, by decide +kernel, rfl, by decide +kernel, by decide +kernel⟩, by decide +kernel, rfl, rfl, rfl, fun _ _ _ _ _ _ us ws hl => match us, ws, hl with | [], [_], _ => rfl | [_], [], _ => rfl, fun _ _ _ h => nomatch h⟩
theorem S_exchanged_of : FnS D i_exchanged_of f_exchanged_of := ⟨⟨rfl, rfl, rfl, by decide +kernel, rfl, by decide +kernel, by decide +kernel⟩, by decide +kernel, rfl, rfl, rfl, fun _ _ _ _ _ _ us ws hl => match us, ws, hl with | [], [_], _ => rfl | [_], [], _ => rfl, fun _ _ _ h => nomatch h⟩
theorem S_lack_of : FnS D i_lack_of f_lack_of := ⟨⟨rfl, rfl, rfl, by decide +kernel, rfl, by decide +kernel, by decide +kernel⟩, by decide +kernel, rfl, rfl, rfl, fun _ _ _ _ _ _ us ws hl => match us, ws, hl with | [], [_, _, _, _], _ => rfl | [_], [_, _, _], _ => rfl | [_, _], [_, _], _ => rfl | [_, _, _], [_], _ => rfl | [_, _, _, _], [], _ => rfl, fun _ _ _ h => nomatch h⟩
theorem S_carried : FnS D i_carried f_carried := ⟨⟨rfl, rfl, rfl, by decide +kernel, rfl, by decide +kernel, by decide +kernel⟩, by decide +kernel, rfl, rfl, rfl, fun _ _ _ _ _ _ us ws hl => match us, ws, hl with | [], [_, _, _, _], _ => rfl | [_], [_, _, _], _ => rfl | [_, _], [_, _], _ => rfl | [_, _, _], [_], _ => rfl | [_, _, _, _], [], _ => rfl, fun _ _ _ h => nomatch h⟩
theorem S_passed_of : FnS D i_passed_of f_passed_of := ⟨⟨rfl, rfl, rfl, by decide +kernel, rfl, by decide +kernel, by decide +kernel⟩, by decide +kernel, rfl, rfl, rfl, fun _ _ _ _ _ _ us ws hl => match us, ws, hl with | [], [_, _, _, _], _ => rfl | [_], [_, _, _], _ => rfl | [_, _], [_, _], _ => rfl | [_, _, _], [_], _ => rfl | [_, _, _, _], [], _ => rfl, fun _ _ _ h => nomatch h⟩
theorem S_tower_of : FnS D i_tower_of f_tower_of := ⟨⟨rfl, rfl, rfl, by decide +kernel, rfl, by decide +kernel, by decide +kernel⟩, by decide +kernel, rfl, rfl, rfl, fun _ _ _ _ _ _ us ws hl => match us, ws, hl with | [], [_, _], _ => rfl | [_], [_], _ => rfl | [_, _], [], _ => rfl, fun _ _ _ h => nomatch h⟩
theorem S_tower : FnS D i_tower f_tower := ⟨⟨rfl, rfl, rfl, by decide +kernel, rfl, by decide +kernel, by decide +kernel⟩, by decide +kernel, rfl, rfl, rfl, fun _ _ _ _ _ _ us ws hl => match us, ws, hl with | [], [_, _], _ => rfl | [_], [_], _ => rfl | [_, _], [], _ => rfl, fun _ _ _ h => nomatch h⟩
theorem S_is_empty_of : FnS D i_is_empty_of f_is_empty_of := ⟨⟨rfl, rfl, rfl, by decide +kernel, rfl, by decide +kernel, by decide +kernel⟩, by decide +kernel, rfl, rfl, rfl, fun _ _ _ _ _ _ us ws hl => match us, ws, hl with | [], [_, _], _ => rfl | [_], [_], _ => rfl | [_, _], [], _ => rfl, fun _ _ _ h => nomatch h⟩
theorem S_is_empty : FnS D i_is_empty f_is_empty := ⟨⟨rfl, rfl, rfl, by decide +kernel, rfl, by decide +kernel, by decide +kernel⟩, by decide +kernel, rfl, rfl, rfl, fun _ _ _ _ _ _ us ws hl => match us, ws, hl with | [], [_, _], _ => rfl | [_], [_], _ => rfl | [_, _], [], _ => rfl, fun _ _ _ h => nomatch h⟩
theorem S_law_undone : FnS D i_law_undone f_law_undone := ⟨⟨rfl, rfl, rfl, by decide +kernel, rfl, by decide +kernel, by decide +kernel⟩, by decide +kernel, rfl, rfl, rfl, fun _ _ _ _ _ _ us ws hl => match us, ws, hl with | [], [_], _ => rfl | [_], [], _ => rfl, fun _ _ _ h => nomatch h⟩
theorem S_undone_of : FnS D i_undone_of f_undone_of := ⟨⟨rfl, rfl, rfl, by decide +kernel, rfl, by decide +kernel, by decide +kernel⟩, by decide +kernel, rfl, rfl, rfl, fun _ _ _ _ _ _ us ws hl => match us, ws, hl with | [], [_], _ => rfl | [_], [], _ => rfl, fun _ _ _ h => nomatch h⟩
theorem S_alike_of : FnS D i_alike_of f_alike_of := ⟨⟨rfl, rfl, rfl, by decide +kernel, rfl, by decide +kernel, by decide +kernel⟩, by decide +kernel, rfl, rfl, rfl, fun _ _ _ _ _ _ us ws hl => match us, ws, hl with | [], [_, _, _], _ => rfl | [_], [_, _], _ => rfl | [_, _], [_], _ => rfl | [_, _, _], [], _ => rfl, fun _ _ _ h => nomatch h⟩
theorem S_alike : FnS D i_alike f_alike := ⟨⟨rfl, rfl, rfl, by decide +kernel, rfl, by decide +kernel, by decide +kernel⟩, by decide +kernel, rfl, rfl, rfl, fun _ _ _ _ _ _ us ws hl => match us, ws, hl with | [], [_, _, _], _ => rfl | [_], [_, _], _ => rfl | [_, _], [_], _ => rfl | [_, _, _], [], _ => rfl, fun _ _ _ h => nomatch h⟩
theorem S_law_bent_syllable : FnS D i_law_bent_syllable f_law_bent_syllable := ⟨⟨rfl, rfl, rfl, by decide +kernel, rfl, by decide +kernel, by decide +kernel⟩, by decide +kernel, rfl, rfl, rfl, fun _ _ _ _ _ _ us ws hl => match us, ws, hl with | [], [_, _, _], _ => rfl | [_], [_, _], _ => rfl | [_, _], [_], _ => rfl | [_, _, _], [], _ => rfl, fun _ _ _ h => nomatch h⟩
theorem S_law_form : FnS D i_law_form f_law_form := ⟨⟨rfl, rfl, rfl, by decide +kernel, rfl, by decide +kernel, by decide +kernel⟩, by decide +kernel, rfl, rfl, rfl, fun _ _ _ _ _ _ us ws hl => match us, ws, hl with | [], [_], _ => rfl | [_], [], _ => rfl, fun _ _ _ h => nomatch h⟩
theorem S_law_tower : FnS D i_law_tower f_law_tower := ⟨⟨rfl, rfl, rfl, by decide +kernel, rfl, by decide +kernel, by decide +kernel⟩, by decide +kernel, rfl, rfl, rfl, fun _ _ _ _ _ _ us ws hl => match us, ws, hl with | [], [_, _], _ => rfl | [_], [_], _ => rfl | [_, _], [], _ => rfl, fun _ _ _ h => nomatch h⟩
theorem S_law_is_empty : FnS D i_law_is_empty f_law_is_empty := ⟨⟨rfl, rfl, rfl, by decide +kernel, rfl, by decide +kernel, by decide +kernel⟩, by decide +kernel, rfl, rfl, rfl, fun _ _ _ _ _ _ us ws hl => match us, ws, hl with | [], [_, _], _ => rfl | [_], [_], _ => rfl | [_, _], [], _ => rfl, fun _ _ _ h => nomatch h⟩
theorem S_law_right_7 : FnS D i_law_right_7 f_law_right_7 := ⟨⟨rfl, rfl, rfl, by decide +kernel, rfl, by decide +kernel, by decide +kernel⟩, by decide +kernel, rfl, rfl, rfl, fun _ _ _ _ _ _ us ws hl => match us, ws, hl with | [], [_], _ => rfl | [_], [], _ => rfl, fun _ _ _ h => nomatch h⟩
theorem S_law_pot : FnS D i_law_pot f_law_pot := ⟨⟨rfl, rfl, rfl, by decide +kernel, rfl, by decide +kernel, by decide +kernel⟩, by decide +kernel, rfl, rfl, rfl, fun _ _ _ _ _ _ us ws hl => match us, ws, hl with | [], [_, _], _ => rfl | [_], [_], _ => rfl | [_, _], [], _ => rfl, fun _ _ _ h => nomatch h⟩
theorem S_law_7 : FnS D i_law_7 f_law_7 := ⟨⟨rfl, rfl, rfl, by decide +kernel, rfl, by decide +kernel, by decide +kernel⟩, by decide +kernel, rfl, rfl, rfl, fun _ _ _ _ _ _ us ws hl => match us, ws, hl with | [], [_], _ => rfl | [_], [], _ => rfl, fun _ _ _ h => nomatch h⟩
theorem tab : tabOk D is = true := by decide +kernel
theorem all : AllS D fs is :=
  .cons F_law_cells S_law_cells <| .cons F_law_take S_law_take <| .cons F_law_of S_law_of <| .cons F_law_some S_law_some <| .cons F_law_drawn_machine S_law_drawn_machine <| .cons F_whole_in S_whole_in <| .cons F_integer_in S_integer_in <| .cons F_figures_in S_figures_in <| .cons F_row_in S_row_in <| .cons F_told_by S_told_by <| .cons F_Machine S_Machine <| .cons F_law_machine_text S_law_machine_text <| .cons F_law_package S_law_package <| .cons F_law_any_number S_law_any_number <| .cons F_law_same_moved S_law_same_moved <| .cons F_law_going_form S_law_going_form <| .cons F_law_hand S_law_hand <| .cons F_law_moved_t S_law_moved_t <| .cons F_law_freed S_law_freed <| .cons F_law_form_word S_law_form_word <| .cons F_law_form_times S_law_form_times <| .cons F_law_form_undone S_law_form_undone <| .cons F_law_turned S_law_turned <| .cons F_law_passed S_law_passed <| .cons F_law_nested_word S_law_nested_word <| .cons F_check_machine S_check_machine <| .cons F_is_whole S_is_whole <| .cons F_is_power_2 S_is_power_2 <| .cons F_hand_number S_hand_number <| .cons F_is_letter S_is_letter <| .cons F_is_tuple S_is_tuple <| .cons F_is_syllable S_is_syllable <| .cons F_is_word S_is_word <| .cons F_check_word S_check_word <| .cons F_check_plain_word S_check_plain_word <| .cons F_put_together S_put_together <| .cons F_times_of S_times_of <| .cons F_form_of S_form_of <| .cons F_lacking S_lacking <| .cons F_exchanged_row S_exchanged_row <| .cons F_exchanged_of S_exchanged_of <| .cons F_lack_of S_lack_of <| .cons F_carried S_carried <| .cons F_passed_of S_passed_of <| .cons F_tower_of S_tower_of <| .cons F_tower S_tower <| .cons F_is_empty_of S_is_empty_of <| .cons F_is_empty S_is_empty <| .cons F_law_undone S_law_undone <| .cons F_undone_of S_undone_of <| .cons F_alike_of S_alike_of <| .cons F_alike S_alike <| .cons F_law_bent_syllable S_law_bent_syllable <| .cons F_law_form S_law_form <| .cons F_law_tower S_law_tower <| .cons F_law_is_empty S_law_is_empty <| .cons F_law_right_7 S_law_right_7 <| .cons F_law_pot S_law_pot <| .cons F_law_7 S_law_7 <| .nil
end G
/-! The pot: what is drawn. -/
namespace G
open Ev PySem L2
def wf : Nat := 64
structure Pot (m : List Ob) (n k : Nat) : Prop where
  ex : ∃ o s c : Int, m[n]? = some (.lst [.int o, .int s, .int c]) ∧ 0 ≤ s ∧ s < 2 ^ 61 ∧ 0 ≤ c ∧ c ≤ k
theorem take_spec {d e n k : Nat} {m : List Ob} {u : Int} (h : Pot m n k) (hk : k < 1073741824) (hu : 0 < u) (hu2 : u < 1152921504606846976) (he : e + 1 ≤ d) :
    ∃ (j : Int) (l : List Tr), callF gc 64 fs d n_law_take [.ob n, .int u] m = some (.int j, m.set n (.lst l)) ∧ 0 ≤ j ∧ j < u ∧ Pot (m.set n (.lst l)) n (k + 1) := by
  obtain ⟨d, rfl⟩ : ∃ d', d = d' + 1 := ⟨d - 1, by omega⟩
  obtain ⟨o, s, c, hm, hs, hs2, hc, hc2⟩ := h.ex
  have ss : ∀ x y : Ob, (m.set n x).set n y = m.set n y := fun x y => by simp
  rw [callS (fn := f_law_take) rfl rfl rfl]
  have q0 : 0 < pc_take0 ∧ pc_take0 < 1000000 := by decide
  have q2 : 0 < pc_take2 ∧ pc_take2 < 1000000 := by decide
  have q3 : 0 < pc_take3 ∧ pc_take3 < 1000000 := by decide
  have q4 : 0 < pc_take4 ∧ pc_take4 < 1000000 := by decide
  by_cases ho : 0 < o
  · refine ⟨o % u, [.int (o / u), .int s, .int c], ?_, Int.emod_nonneg _ (by omega), Int.emod_lt_of_pos _ hu, ⟨_, _, _, set_get hm, hs, hs2, hc, by omega⟩⟩
    simp [f_law_take, b_law_take, hm, ho, opB_fdiv hu hu2, opB_mod hu, ixN, asInt]
  · have hs1 : ∀ x : Ob, (m.set n x)[n]? = some x := fun x => set_get hm
    have e1 : opB .mul (.int pc_take4) (.int (c + 1)) = some (.int (pc_take4 * (c + 1))) := opB_mul (.of64 (by omega) (by omega)) (.of64 (by omega) (by omega))
    have e2 : opB .mul (.int (pc_take4 * (c + 1))) (.int (c + 1)) = some (.int (pc_take4 * (c + 1) * (c + 1))) := opB_mul (.of64 (by unfold pc_take4; omega) (by unfold pc_take4; omega)) (.of64 (by omega) (by omega))
    have e3 : opB .mul (.int pc_take3) (.int (c + 1)) = some (.int (pc_take3 * (c + 1))) := opB_mul (.of64 (by omega) (by omega)) (.of64 (by omega) (by omega))
    have b1 : (c + 1) * (c + 1) ≤ 1073741825 * 1073741825 := Int.mul_le_mul (by omega) (by omega) (by omega) (by omega)
    have b0 : 0 ≤ (c + 1) * (c + 1) := Int.mul_nonneg (by omega) (by omega)
    have b2 : pc_take4 * (c + 1) * (c + 1) = pc_take4 * ((c + 1) * (c + 1)) := Int.mul_assoc _ _ _
    have e4 : opB .pow (.int (s + pc_take4 * (c + 1) * (c + 1) + pc_take1)) (.int 3) = some (.int ((s + pc_take4 * (c + 1) * (c + 1) + pc_take1) ^ 3)) := opB_cube (by rw [b2]; unfold pc_take4 pc_take1; omega) (by rw [b2]; unfold pc_take4 pc_take1; omega)
    obtain ⟨B, hB⟩ : ∃ B, (s + pc_take4 * (c + 1) * (c + 1) + pc_take1) ^ 3 = B := ⟨_, rfl⟩
    rw [hB] at e4
    have e5 : ∀ (b p : Int), 0 < p → p < 4294967296 → opB .mul (.int (b % p)) (.int (b % p % pc_take2 + pc_take3 * (c + 1))) = some (.int (b % p * (b % p % pc_take2 + pc_take3 * (c + 1)))) := fun b p h1 h2 => by
      have := Int.emod_nonneg b (show p ≠ 0 by omega)
      have := Int.emod_lt_of_pos b h1
      have := Int.emod_nonneg (b % p) (show pc_take2 ≠ 0 by omega)
      have := Int.emod_lt_of_pos (b % p) q2.1
      have z1 : pc_take3 * (c + 1) ≤ 1000000 * 1073741825 := Int.mul_le_mul (by omega) (by omega) (by omega) (by omega)
      have z0 : 0 ≤ pc_take3 * (c + 1) := Int.mul_nonneg (by omega) (by omega)
      exact opB_mul (.of64 (by omega) (by omega)) (.of64 (by omega) (by omega))
    have m5 : opB .mod (.int (c + 1)) (.int 5) = some (.int ((c + 1) % 5)) := opB_mod (by omega)
    have e6 : ∀ b p : Int, 0 < p → opB .mod (.int b) (.int p) = some (.int (b % p)) := fun b p h => opB_mod h
    have e7 : ∀ b : Int, opB .mod (.int b) (.int pc_take2) = some (.int (b % pc_take2)) := fun b => opB_mod q2.1
    have e8 : ∀ b : Int, opB .fdiv (.int b) (.int pc_take0) = some (.int (b / pc_take0)) := fun b => opB_fdiv q0.1 (by omega)
    have e9 : ∀ b : Int, opB .mod (.int b) (.int u) = some (.int (b % u)) := fun b => opB_mod hu
    have r0 := Int.emod_nonneg (c + 1) (show (5 : Int) ≠ 0 by omega)
    have r1 := Int.emod_lt_of_pos (c + 1) (show (0 : Int) < 5 by omega)
    have P : Pot (m.set n (.lst [.int o, .int s, .int (c + 1)])) n (k + 1) := ⟨_, _, _, set_get hm, hs, hs2, by omega, by omega⟩
    have cases5 : (c + 1) % 5 = 0 ∨ (c + 1) % 5 = 1 ∨ (c + 1) % 5 = 2 ∨ (c + 1) % 5 = 3 ∨ (c + 1) % 5 = 4 := by omega
    have fi : ∀ (b p : Int), 0 ≤ b % p * (b % p % pc_take2 + pc_take3 * (c + 1)) / pc_take0 % u ∧ b % p * (b % p % pc_take2 + pc_take3 * (c + 1)) / pc_take0 % u < u := fun b p => ⟨Int.emod_nonneg _ (by omega), Int.emod_lt_of_pos _ hu⟩
    rcases cases5 with z | z | z | z | z
    · refine ⟨_, _, ?_, (fi B 2147483647).1, (fi B 2147483647).2, P⟩
      simp [f_law_take, b_law_take, hm, ho, hs1, e1, e2, e3, e4, e5, e6, e7, e8, e9, m5, z, ixN, asInt]
    · refine ⟨_, _, ?_, (fi B 2147483629).1, (fi B 2147483629).2, P⟩
      simp [f_law_take, b_law_take, hm, ho, hs1, e1, e2, e3, e4, e5, e6, e7, e8, e9, m5, z, ixN, asInt]
    · refine ⟨_, _, ?_, (fi B 2147483587).1, (fi B 2147483587).2, P⟩
      simp [f_law_take, b_law_take, hm, ho, hs1, e1, e2, e3, e4, e5, e6, e7, e8, e9, m5, z, ixN, asInt]
    · refine ⟨_, _, ?_, (fi B 2147483579).1, (fi B 2147483579).2, P⟩
      simp [f_law_take, b_law_take, hm, ho, hs1, e1, e2, e3, e4, e5, e6, e7, e8, e9, m5, z, ixN, asInt]
    · refine ⟨_, _, ?_, (fi B 2147483563).1, (fi B 2147483563).2, P⟩
      simp [f_law_take, b_law_take, hm, ho, hs1, e1, e2, e3, e4, e5, e6, e7, e8, e9, m5, z, ixN, asInt]
end G
/-! The pot made of a script's cell. -/
namespace G
open Ev PySem L2
theorem p18 : opB .pow (.int 10) (.int 18) = some (.int 1000000000000000000) := (opB_pow (by decide) (by decide)).trans rfl
theorem p60 : opB .pow (.int 10) (.int 60) = some (.int 1000000000000000000000000000000000000000000000000000000000000) := (opB_pow (by decide) (by decide)).trans rfl
theorem p300 : opB .pow (.int 1000000000000000000000000000000000000000000000000000000000000) (.int 5) = some (.int 1000000000000000000000000000000000000000000000000000000000000000000000000000000000000000000000000000000000000000000000000000000000000000000000000000000000000000000000000000000000000000000000000000000000000000000000000000000000000000000000000000000000000000000000000000000000000000000000000000000000000) := (opB_pow (by decide) (by decide +kernel)).trans (congrArg (fun x => some (Tr.int x)) (by decide +kernel))
def b_potR : List Sm := b_law_pot.drop 1
theorem pot_rest {cf : CF} {m : List Ob} {x0 : Slot} {C : Int} {i : Nat} (hi : i ≤ 2) : ∃ o s : Int, exSs gc cf 64 b_potR ⟨[x0, .val (.int i), .val (.int C), .none, .none], m⟩ = .ok (.ret (.ob m.length)) ⟨[x0, .val (.int i), .val (.int C), .val (.int o), .val (.int (C % 2305843009213693951))], m ++ [.lst [.int o, .int s, .int 0]]⟩ ∧ 0 ≤ s ∧ s < 2305843009213693921 := by
  have q0 := Int.emod_nonneg C (show (2305843009213693951 : Int) ≠ 0 by omega)
  have q1 := Int.emod_lt_of_pos C (show (0 : Int) < 2305843009213693951 by omega)
  have c3 : 0 < pc_pot3 ∧ pc_pot3 < 1000000 := by decide
  have c4 : 0 < pc_pot4 ∧ pc_pot4 < 1000000 := by decide
  have s1 : opB .mul (.int (C % 2305843009213693951)) (.int pc_pot3) = some (.int (C % 2305843009213693951 * pc_pot3)) := opB_mul (.of64 (by omega) (by omega)) (.of64 (by omega) (by omega))
  have s2 : opB .mul (.int pc_pot4) (.int (i : Int)) = some (.int (pc_pot4 * i)) := opB_mul (.of64 (by omega) (by omega)) (.of64 (by omega) (by omega))
  have s3 : opB .mul (.int (pc_pot4 * (i : Int))) (.int (i : Int)) = some (.int (pc_pot4 * i * i)) := opB_mul (.of64 (by unfold pc_pot4; omega) (by unfold pc_pot4; omega)) (.of64 (by omega) (by omega))
  have r0 : ∀ x : Int, 0 ≤ x % 2305843009213693921 := fun x => Int.emod_nonneg _ (by omega)
  have r1 : ∀ x : Int, x % 2305843009213693921 < 2305843009213693921 := fun x => Int.emod_lt_of_pos _ (by omega)
  have d1 : opB .mod (.int C) (.int 2305843009213693951) = some (.int (C % 2305843009213693951)) := opB_mod (by omega)
  have d2 : ∀ x : Int, opB .mod (.int x) (.int 2305843009213693921) = some (.int (x % 2305843009213693921)) := fun x => opB_mod (by omega)
  have a1 := b_abs C
  generalize (if C < 0 then -C else C) = A at a1
  obtain ⟨M, hM⟩ : ∃ M : Int, M = 1000000000000000000000000000000000000000000000000000000000000000000000000000000000000000000000000000000000000000000000000000000000000000000000000000000000000000000000000000000000000000000000000000000000000000000000000000000000000000000000000000000000000000000000000000000000000000000000000000000000000 := ⟨_, rfl⟩
  have hM0 : 0 < M := by rw [hM]; decide +kernel
  have pM : opB .pow (.int 1000000000000000000000000000000000000000000000000000000000000) (.int 5) = some (.int M) := by rw [hM]; exact p300
  have n0 := Int.emod_nonneg A (show M ≠ 0 by omega)
  have n1 := Int.emod_lt_of_pos A hM0
  have lM : Lil (A % M) := Lil.of 1000 (by omega) (by omega) (by
    have : M < ((2 ^ 1000 : Nat) : Int) := by rw [hM]; decide +kernel
    omega)
  have d3 : opB .mod (.int A) (.int M) = some (.int (A % M)) := opB_mod hM0
  have m1 : opB .mul (.int (A % M)) (.int 1) = some (.int (A % M * 1)) := opB_mul lM (.of64 (by omega) (by omega))
  have m0 : opB .mul (.int (A % M)) (.int 0) = some (.int (A % M * 0)) := opB_mul lM (.of64 (by omega) (by omega))
  clear hM
  by_cases hA : 1000000000000000000 ≤ A
  · refine ⟨A % M * 1, (C % 2305843009213693951 * pc_pot3 + pc_pot4 * i * i + pc_pot2) % 2305843009213693921, ?_, r0 _, r1 _⟩
    simp [b_potR, b_law_pot, a1, p60, pM, p18, hA, hM0, m1, m0, s1, s2, s3, d1, d2, d3, -b_abs]
  · refine ⟨A % M * 0, (C % 2305843009213693951 * pc_pot3 + pc_pot4 * i * i + pc_pot2) % 2305843009213693921, ?_, r0 _, r1 _⟩
    simp [b_potR, b_law_pot, a1, p60, pM, p18, hA, hM0, m1, m0, s1, s2, s3, d1, d2, d3, -b_abs]
theorem pot {d e : Nat} {m : List Ob} {ns : List Int} {i : Nat} (hi : i ≤ 2) (h : i < ns.length ∨ (i = 0 ∧ ns = [])) (he : e + 1 ≤ d) : ∃ o s : Int, callF gc 64 fs d n_law_pot [.flst (ns.map .int), .int i] m = some (.ob m.length, m ++ [.lst [.int o, .int s, .int 0]]) ∧ 0 ≤ s ∧ s < 2 ^ 61 := by
  obtain ⟨d, rfl⟩ : ∃ d', d = d' + 1 := ⟨d - 1, by omega⟩
  rw [callS (fn := f_law_pot) rfl rfl rfl]
  have fin3 : ∀ (C : Int), exS gc (callF gc 64 fs d) 64 (b_law_pot.headD .pass) ⟨[.val (.flst (ns.map .int)), .val (.int i), .none, .none, .none], m⟩ = .ok .next ⟨[.val (.flst (ns.map .int)), .val (.int i), .val (.int C), .none, .none], m⟩ → ∃ o s : Int, done (exSs gc (callF gc 64 fs d) 64 b_law_pot ⟨[.val (.flst (ns.map .int)), .val (.int i), .none, .none, .none], m⟩) = some (.ob m.length, m ++ [.lst [.int o, .int s, .int 0]]) ∧ 0 ≤ s ∧ s < 2 ^ 61 := fun C e => by
    obtain ⟨o, s, e2, h0, h1⟩ := pot_rest (cf := callF gc 64 fs d) (m := m) (x0 := .val (.flst (ns.map .int))) (C := C) hi
    refine ⟨o, s, ?_, h0, by omega⟩
    rw [show b_law_pot = b_law_pot.headD .pass :: b_potR from rfl, s_cons, e, rbind_ok]
    show done (exSs gc (callF gc 64 fs d) 64 b_potR _) = _
    rw [e2]
    rfl
  show ∃ o s : Int, done (exSs gc (callF gc 64 fs d) 64 b_law_pot ⟨[.val (.flst (ns.map .int)), .val (.int i), .none, .none, .none], m⟩) = some (.ob m.length, m ++ [.lst [.int o, .int s, .int 0]]) ∧ 0 ≤ s ∧ s < 2 ^ 61
  rcases h with h | ⟨rfl, rfl⟩
  · refine fin3 ns[i] ?_
    have e1 : biT .len [.flst (ns.map Tr.int)] = some (.int ns.length) := by rw [b_lenF, List.length_map]
    have e2 : idxT (.flst (ns.map Tr.int)) (.int (i : Int)) = some (.int ns[i]) := by
      show atI (ns.map Tr.int) (i : Int) = _
      rw [Ev.atI_nat, List.getElem?_map, List.getElem?_eq_getElem h]
      rfl
    generalize ns.map Tr.int = L at e1 e2 ⊢
    generalize hN : (ns.length : Int) = N at e1
    have h' : (i : Int) < N := by omega
    show exS gc (callF gc 64 fs d) 64 (.set 2 (.ite (.cmp .lt (.var 1) (.bi .len [.var 0])) (.idx (.var 0) (.var 1)) (.bin .add (.bin .add (.bin .mod (.bi .int [.bi .sum [.sl (.var 0) .nul (.int 1)]]) (.int 1000003)) (.bin .mul (.int pc_pot1) (.var 1))) (.int pc_pot0)))) _ = _
    generalize ns[i] = C at e2 ⊢
    simp [e1, e2, h', -b_lenF]
  · refine fin3 pc_pot0 ?_
    show exS gc (callF gc 64 fs d) 64 (.set 2 (.ite (.cmp .lt (.var 1) (.bi .len [.var 0])) (.idx (.var 0) (.var 1)) (.bin .add (.bin .add (.bin .mod (.bi .int [.bi .sum [.sl (.var 0) .nul (.int 1)]]) (.int 1000003)) (.bin .mul (.int pc_pot1) (.var 1))) (.int pc_pot0)))) _ = _
    rw [List.map_nil]
    have c1 : 0 < pc_pot1 ∧ pc_pot1 < 1000000 := by decide
    have e2 : slT (.flst []) none (some 1) = some (.lst []) := rfl
    have e3 : biT .sum [.lst []] = some (.int 0) := rfl
    have e4 : opB .mul (.int pc_pot1) (.int 0) = some (.int 0) := by rw [opB_mul (.of64 (by omega) (by omega)) (.of64 (by omega) (by omega))]; simp
    have e5 : opB .mod (.int 0) (.int 1000003) = some (.int 0) := rfl
    simp [e2, e3, e4, e5, isNul, asInt]
theorem pot_ok {o s : Int} {m : List Ob} (h : 0 ≤ s) (h2 : s < 2 ^ 61) : Pot (m ++ [.lst [.int o, .int s, .int 0]]) m.length 0 := ⟨o, s, 0, by simp, h, h2, by omega, by omega⟩
end G
/-! A machine's text: lines, words. -/
namespace Ev
open PySem L2 TL
structure Row where
  a : Nat
  b : Nat
  f : Nat
  s : Bool
def sd : Bool → Str
  | true => "right"
  | false => "left"
def numS (n : Nat) : Str := Str.ofString (toString ((n : Nat) : Int))
def rowWords (r : Row) : List Str := ["row", numS r.a, numS r.b, numS r.f, sd r.s]
def rowText (r : Row) : Str := Txt.join " " (rowWords r)
def firstLine (m : Nat) : Str := ("figures " : Str) ++ numS m
def macLines (m : Nat) (rows : List Row) : List Str := firstLine m :: rows.map rowText
def macText (m : Nat) (rows : List Row) : Str := Txt.join "\n" (macLines m rows)
theorem tl_numS (n : Nat) : tl (numS n) = numL n := tl_num n
theorem tl_joinT (y : Str) (l : List Str) : tl (Txt.join y l) = joinL (tl y) (l.map tl) := by rw [join_eq, tl_join]
theorem tl_sp : tl (" " : Str) = [32] := by decide +kernel
theorem tl_nl : tl ("\n" : Str) = [10] := by decide +kernel
theorem mem_joinL {s : Nat} {S : List Nat} (h : s ∉ S) : ∀ {l : List (List Nat)}, (∀ p ∈ l, s ∉ p) → s ∉ joinL S l
  | [], _ => by simp [joinL]
  | [p], hp => by simpa [joinL] using hp p (by simp)
  | p :: q :: r, hp => by
    have ih := mem_joinL h (l := q :: r) fun z hz => hp z (List.mem_cons_of_mem _ hz)
    simp only [joinL, List.mem_append, not_or]
    exact ⟨hp p (by simp), h, ih⟩
theorem row_free {s : Nat} (h : s < 48) (h2 : s ≠ 32) (r : Row) : s ∉ tl (rowText r) := by
  unfold rowText
  rw [tl_joinT, tl_sp]
  refine mem_joinL (by simp; omega) fun p hp => ?_
  obtain ⟨z, hz, rfl⟩ := List.mem_map.mp hp
  simp only [rowWords, List.mem_cons, List.not_mem_nil, or_false] at hz
  have c : ∀ l : List Nat, (l.all fun c => decide (48 ≤ c)) = true → s ∉ l := fun l hl hm => by
    have := of_decide_eq_true (List.all_eq_true.mp hl s hm)
    omega
  rcases hz with rfl | rfl | rfl | rfl | rfl
  · exact c _ (by decide +kernel)
  · rw [tl_numS]; exact numL_free (.inl h)
  · rw [tl_numS]; exact numL_free (.inl h)
  · rw [tl_numS]; exact numL_free (.inl h)
  · cases r.s
    · exact c _ (by decide +kernel)
    · exact c _ (by decide +kernel)
theorem word_free (r : Row) : ∀ p ∈ rowWords r, 32 ∉ tl p := by
  intro z hz
  simp only [rowWords, List.mem_cons, List.not_mem_nil, or_false] at hz
  rcases hz with rfl | rfl | rfl | rfl | rfl
  · decide +kernel
  · rw [tl_numS]; exact numL_free (.inl (by omega))
  · rw [tl_numS]; exact numL_free (.inl (by omega))
  · rw [tl_numS]; exact numL_free (.inl (by omega))
  · cases r.s <;> decide +kernel
theorem split_row (r : Row) : Txt.split (rowText r) " " = rowWords r :=
  split_join (y := " ") (s := 32) (S := []) tl_sp (by decide +kernel) (by simp [rowWords]) (word_free r)
theorem first_join (m : Nat) : firstLine m = Txt.join " " [("figures" : Str), numS m] := by
  refine ext_tl ?_
  unfold firstLine
  rw [tl_joinT, tl_append, tl_sp]
  have e : tl ("figures " : Str) = tl ("figures" : Str) ++ [32] := by decide +kernel
  rw [e, List.append_assoc]
  rfl
theorem split_first (m : Nat) : Txt.split (firstLine m) " " = [("figures" : Str), numS m] := by
  rw [first_join]
  refine split_join (y := " ") (s := 32) (S := []) tl_sp (by decide +kernel) (by simp) fun z hz => ?_
  simp only [List.mem_cons, List.not_mem_nil, or_false] at hz
  rcases hz with rfl | rfl
  · decide +kernel
  · rw [tl_numS]; exact numL_free (.inl (by omega))
theorem split_text (m : Nat) (rows : List Row) : Txt.split (macText m rows) "\n" = macLines m rows := by
  refine split_join (y := "\n") (s := 10) (S := []) tl_nl (by decide +kernel) (by simp [macLines]) fun z hz => ?_
  simp only [macLines, List.mem_cons, List.mem_map] at hz
  rcases hz with rfl | ⟨r, _, rfl⟩
  · unfold firstLine
    rw [tl_append, List.mem_append, tl_numS]
    refine not_or.mpr ⟨by decide +kernel, numL_free (.inl (by omega))⟩
  · exact row_free (by omega) (by omega) r
theorem len_numS {n : Nat} (h : n < 100) : (numS n).length ≤ 2 := by
  rw [len_tl, tl_numS]
  exact numL_len (k := 2) (by omega) (by omega)
theorem len_join (y : Str) (l : List Str) : (Txt.join y l).length ≤ (l.map (·.length)).sum + l.length * y.length := by
  rw [join_eq]
  exact StrLaws.join_length_le y l
def Row.small (r : Row) : Prop := r.a < 100 ∧ r.b < 100 ∧ r.f < 100
theorem words_sum {r : Row} (h : r.small) : ((rowWords r).map (·.length)).sum ≤ 14 := by
  obtain ⟨h1, h2, h3⟩ := h
  have := len_numS h1
  have := len_numS h2
  have := len_numS h3
  have e1 : ("row" : Str).length = 3 := by decide +kernel
  have e2 : (sd r.s).length ≤ 5 := by cases r.s <;> decide +kernel
  simp only [rowWords, List.map_cons, List.map_nil, List.sum_cons, List.sum_nil]
  omega
theorem len_row {r : Row} (h : r.small) : (rowText r).length ≤ 19 := by
  have h1 := len_join " " (rowWords r)
  have h2 := words_sum h
  have e : (" " : Str).length = 1 := by decide +kernel
  have e2 : (rowWords r).length = 5 := rfl
  unfold rowText
  rw [e, e2] at h1
  omega
theorem len_first {m : Nat} (h : m < 100) : (firstLine m).length ≤ 10 := by
  unfold firstLine
  rw [Str.length_append]
  have := len_numS h
  have e : ("figures " : Str).length = 8 := by decide +kernel
  omega
theorem lines_sum {m : Nat} {rows : List Row} (h : m < 100) (hr : ∀ r ∈ rows, r.small) : ((macLines m rows).map (·.length)).sum ≤ 10 + 19 * rows.length := by
  have key : ∀ rows : List Row, (∀ r ∈ rows, r.small) → ((rows.map rowText).map (·.length)).sum ≤ 19 * rows.length := by
    intro rows
    induction rows with
    | nil => intro _; simp
    | cons r rows ih =>
      intro hr
      have h1 := len_row (hr r (by simp))
      have h2 := ih fun x hx => hr x (by simp [hx])
      simp only [List.map_cons, List.sum_cons, List.length_cons]
      omega
  have h1 := key rows hr
  have h2 := len_first h
  simp only [macLines, List.map_cons, List.sum_cons]
  omega
theorem len_text {m : Nat} {rows : List Row} (h : m < 100) (hr : ∀ r ∈ rows, r.small) : (macText m rows).length ≤ 20 + 20 * rows.length := by
  have h1 := len_join "\n" (macLines m rows)
  have h2 := lines_sum h hr
  have e : ("\n" : Str).length = 1 := by decide +kernel
  have e2 : (macLines m rows).length = rows.length + 1 := by simp [macLines]
  unfold macText
  rw [e, e2] at h1
  omega
end Ev
/-! A machine made of a text. -/
namespace G
open Ev PySem L2
def trRow (r : Row) : Tr := .tup [.int r.a, .int r.b, .int r.f, .str (sd r.s)]
def keyR (r : Row) : List Key := [.inl r.a, .inl r.b]
def vals (n : Nat) : List Tr := (List.range n).map fun (i : Nat) => Tr.int i
def trM (m : Nat) (rows : List Row) : Tr := .ins "Machine" ["own_text", "own_figures", "own_rows", "own_by_rests"] [.str (macText m rows), .int m, .lst (rows.map trRow), .dt (rows.map keyR) (vals rows.length)]
/-- a row that may stand in a machine of m figures -/
structure ROk (m : Nat) (r : Row) : Prop where
  a : r.a < m
  b : r.b < m
  f : r.f < m * m
  n : ¬ (r.a = 0 ∧ r.b = 0)
structure MOk (m : Nat) (rows : List Row) : Prop where
  lo : 2 ≤ m
  hi : m ≤ 9
  ok : ∀ r ∈ rows, ROk m r
  nd : (rows.map keyR).Nodup
  ne : rows ≠ []
  len : rows.length ≤ 80
theorem ROk.small {m : Nat} {r : Row} (h : ROk m r) (hm : m ≤ 9) : r.small := by
  have h1 := h.a
  have h2 := h.b
  have h3 := h.f
  have : m * m ≤ 9 * 9 := Nat.mul_le_mul hm hm
  exact ⟨by omega, by omega, by omega⟩
theorem wholes {d : Nat} {m : List Ob} : (List.range 100).map (fun n => callF gc 64 fs (d + 1) n_whole_in [.str (numS n)] m) = (List.range 100).map fun (n : Nat) => some (Tr.int n, m) := by kernel_rfl
theorem whole_in {d n : Nat} {m : List Ob} (hd : 1 ≤ d) (h : n < 100) : callF gc 64 fs d n_whole_in [.str (numS n)] m = some (.int n, m) := by
  obtain ⟨d, rfl⟩ : ∃ d', d = d' + 1 := ⟨d - 1, by omega⟩
  have e := congrArg (fun l => l[n]?) (wholes (d := d) (m := m))
  simpa [h] using e
theorem integer_in {d n : Nat} {m : List Ob} {lo hi : Int} (hd : 2 ≤ d) (h : n < 100) (h1 : lo ≤ n) (h2 : (n : Int) ≤ hi) : callF gc 64 fs d n_integer_in [.str (numS n), .int lo, .int hi] m = some (.int n, m) := by
  obtain ⟨d, rfl⟩ : ∃ d', d = d' + 1 := ⟨d - 1, by omega⟩
  have e := whole_in (d := d) (m := m) (by omega) h
  rw [callS (fn := f_integer_in) rfl rfl rfl]
  simp [f_integer_in, b_integer_in, e, h1, h2]
theorem figures_in {d n : Nat} {m : List Ob} (hd : 3 ≤ d) (h1 : 2 ≤ n) (h2 : n ≤ 9) : callF gc 64 fs d n_figures_in [.lst [.str "figures", .str (numS n)]] m = some (.int n, m) := by
  obtain ⟨d, rfl⟩ : ∃ d', d = d' + 1 := ⟨d - 1, by omega⟩
  have e := integer_in (d := d) (m := m) (lo := 2) (hi := 9) (by omega) (show n < 100 by omega) (by omega) (by omega)
  rw [callS (fn := f_figures_in) rfl rfl rfl]
  simp [f_figures_in, b_figures_in, e, opC2_of]
theorem row_in {d n : Nat} {m : List Ob} {r : Row} (hd : 3 ≤ d) (h2 : n ≤ 9) (h : ROk n r) : callF gc 64 fs d n_row_in [.int n, .lst ((rowWords r).map .str)] m = some (trRow r, m) := by
  obtain ⟨d, rfl⟩ : ∃ d', d = d' + 1 := ⟨d - 1, by omega⟩
  obtain ⟨q1, q2, q3⟩ := h.small h2
  have ha := h.a
  have hb := h.b
  have hf := h.f
  have e1 := integer_in (d := d) (m := m) (lo := 0) (hi := (n : Int) - 1) (by omega) q1 (by omega) (by omega)
  have e2 := integer_in (d := d) (m := m) (lo := 0) (hi := (n : Int) - 1) (by omega) q2 (by omega) (by omega)
  have e3 := integer_in (d := d) (m := m) (lo := 0) (hi := (n : Int) * n - 1) (by omega) q3 (by omega) (by
        have : ((n * n : Nat) : Int) = (n : Int) * n := by simp
        omega)
  have e4 : opB .mul (.int (n : Int)) (.int (n : Int)) = some (.int ((n : Int) * n)) := opB_mul (.of64 (by omega) (by omega)) (.of64 (by omega) (by omega))
  have e5 : opC2 .nin (.str (sd r.s)) (.tup [.str "left", .str "right"]) = some false := by cases r.s <;> decide +kernel
  have e6 : (decide (r.a = 0) && decide (r.b = 0)) = false := by
    have := h.n
    simp
    omega
  rw [callS (fn := f_row_in) rfl rfl rfl]
  simp only [rowWords, trRow, List.map_cons, List.map_nil]
  generalize numS r.a = za at e1
  generalize numS r.b = zb at e2
  generalize numS r.f = zf at e3
  generalize sd r.s = zs at e5
  simp [f_row_in, b_row_in, e1, e2, e3, e4, e5, e6, opC2_eqT, eqT_pair, manyGo]
theorem forGo_cons {tg : Tg} {f : Sta → Rs Fl} {x : Tr} {xs : List Tr} {s s1 : Sta} {env : List Slot} (h : asg tg x s.env = some env) (h2 : f ⟨env, s.mem⟩ = .ok .next s1) : forGo tg f (x :: xs) s = forGo tg f xs s1 := by
  simp only [forGo, h, h2]
theorem getK_none {κ : Type} [DecidableEq κ] {x : κ} : ∀ {ks : List κ} {vs : List Tr}, x ∉ ks → getK x ks vs = none
  | [], vs, _ => by simp [getK]
  | k :: ks, [], _ => by simp [getK]
  | k :: ks, v :: vs, h => by
    simp only [List.mem_cons, not_or] at h
    simp only [getK, if_neg (Ne.symm h.1), getK_none h.2]
theorem putV_new {κ : Type} [DecidableEq κ] {x : κ} {ks : List κ} {vs : List Tr} {t : Tr} (h : x ∉ ks) : putV ks vs x t = (ks ++ [x], vs ++ [t]) := by
  unfold putV
  rw [if_neg]
  simp only [List.any_eq_true, decide_eq_true_eq, not_exists, not_and]
  intro k hk e
  exact h (e ▸ hk)
theorem keys_row (r : Row) : keysT [.int r.a, .int r.b] = some (keyR r) := rfl
theorem vals_succ (n : Nat) : vals n ++ [.int (n : Int)] = vals (n + 1) := by simp [vals, List.range_succ]
theorem told_step {d n i : Nat} {mem : List Ob} {x0 x1 x2 s8 : Slot} {r : Row} {dn : List Row} (hd : 3 ≤ d) (hn : n ≤ 9) (hr : ROk n r) (hk : keyR r ∉ dn.map keyR) (hl : dn.length ≤ 80) :
    exSs gc (callF gc 64 fs d) 64 l_told_by_1 ⟨[x0, x1, x2, .val (.int n), .own (.lst (dn.map trRow)), .own (.dt (dn.map keyR) (vals dn.length)), .val (.int i), .val (.lst ((rowWords r).map .str)), s8], mem⟩ =
        .ok .next ⟨[x0, x1, x2, .val (.int n), .own (.lst ((dn ++ [r]).map trRow)), .own (.dt ((dn ++ [r]).map keyR) (vals (dn ++ [r]).length)), .val (.int i), .val (.lst ((rowWords r).map .str)), .val (trRow r)], mem⟩ := by
  have e1 := row_in (d := d) (m := mem) hd hn hr
  have g1 := getK_none (vs := vals dn.length) hk
  have g2 := putV_new (vs := vals dn.length) (t := .int (dn.length : Int)) hk
  have hl1 : (dn.map trRow).length = dn.length := List.length_map ..
  have hl2 : (dn.map keyR).length = dn.length := List.length_map ..
  have w : vals (dn ++ [r]).length = vals dn.length ++ [.int (dn.length : Int)] := by rw [vals_succ]; simp
  have hl3 : dn.length < 16777216 := by omega
  rw [w, List.map_append, List.map_append, List.map_cons, List.map_nil, List.map_cons, List.map_nil]
  generalize vals dn.length = V at *
  generalize (rowWords r).map Tr.str = WW at *
  generalize dn.map keyR = KK at *
  generalize dn.map trRow = RR at *
  have cin : opC2 .inn (.tup [.int r.a, .int r.b]) (.dt KK V) = some false := by
    show Option.map Option.isSome (Option.map (fun k => getK k KK V) (keysT [.int r.a, .int r.b])) = _
    rw [keys_row, Option.map_some, Option.map_some, g1]
    rfl
  have csl : slT (trRow r) none (some 2) = some (.tup [.int r.a, .int r.b]) := rfl
  have pr : (trRow r).pure = true := rfl
  have dr : ∀ s : Sta, s.deref (trRow r) = trRow r := fun s => rfl
  have nr : opC2 .isN (trRow r) .non = some false := rfl
  generalize trRow r = TR at *
  simp [l_told_by_1, e1, cin, csl, pr, dr, nr, keys_row, g2, d_own, isNul, asInt, hl1, hl2, hl3]
theorem told_loop {d n : Nat} {mem : List Ob} {x0 x1 x2 : Slot} (hd : 3 ≤ d) (hn : n ≤ 9) : ∀ (rest : List (Nat × Row)) (dn : List Row) (s6 s7 s8 : Slot), (∀ p ∈ rest, ROk n p.2) → ((dn ++ rest.map (·.2)).map keyR).Nodup → dn.length + rest.length ≤ 80 →
    ∃ y6 y7 y8, forGo (.tp [.nm 6, .nm 7]) (exSs gc (callF gc 64 fs d) 64 l_told_by_1) (rest.map fun p => .tup [.int p.1, .lst ((rowWords p.2).map .str)]) ⟨[x0, x1, x2, .val (.int n), .own (.lst (dn.map trRow)), .own (.dt (dn.map keyR) (vals dn.length)), s6, s7, s8], mem⟩ =
      .ok .next ⟨[x0, x1, x2, .val (.int n), .own (.lst ((dn ++ rest.map (·.2)).map trRow)), .own (.dt ((dn ++ rest.map (·.2)).map keyR) (vals (dn.length + rest.length))), y6, y7, y8], mem⟩
  | [], dn, s6, s7, s8, _, _, _ => ⟨s6, s7, s8, by simp [forGo]⟩
  | (i, r) :: rest, dn, s6, s7, s8, hr, nd, hl => by
    rw [List.length_cons] at hl
    have hk : keyR r ∉ dn.map keyR := by
      rw [List.map_append, List.nodup_append] at nd
      intro h
      exact nd.2.2 _ h _ (by simp) rfl
    obtain ⟨y6, y7, y8, hy⟩ := told_loop (mem := mem) (x0 := x0) (x1 := x1) (x2 := x2) hd hn rest (dn ++ [r]) (.val (.int i)) (.val (.lst ((rowWords r).map .str))) (.val (trRow r)) (fun p hp => hr p (by simp [hp])) (by simpa using nd) (by simp; omega)
    refine ⟨y6, y7, y8, ?_⟩
    have step := told_step (i := i) (mem := mem) (x0 := x0) (x1 := x1) (x2 := x2) (s8 := s8) hd hn (hr (i, r) (by simp)) hk (by omega)
    have ha : asg (.tp [.nm 6, .nm 7]) (.tup [.int i, .lst ((rowWords r).map .str)]) [x0, x1, x2, .val (.int n), .own (.lst (dn.map trRow)), .own (.dt (dn.map keyR) (vals dn.length)), s6, s7, s8] = some [x0, x1, x2, .val (.int n), .own (.lst (dn.map trRow)), .own (.dt (dn.map keyR) (vals dn.length)), .val (.int i), .val (.lst ((rowWords r).map .str)), s8] := by simp [asg, asgs]
    have z : dn.length + 1 + rest.length = dn.length + (rest.length + 1) := by omega
    rw [List.map_cons, forGo_cons ha step, hy]
    simp [z]
theorem split_sp {z : Str} (h : z.length ≤ 100000) : mtT .split (.str z) [.str " "] = some (.lst ((Txt.split z " ").map .str)) := by
  have e : ((" " : Str).length == 0) = false := by decide +kernel
  simp only [mtT]
  rw [if_pos ⟨e, by rw [Ev.sizeLine_eq]; omega⟩]
theorem split_nl {z : Str} (h : z.length ≤ 100000) : mtT .split (.str z) [.str "\n"] = some (.lst ((Txt.split z "\n").map .str)) := by
  have e : (("\n" : Str).length == 0) = false := by decide +kernel
  simp only [mtT]
  rw [if_pos ⟨e, by rw [Ev.sizeLine_eq]; omega⟩]
def spT : Tr → Option Tr
  | .str z => some (.lst ((Txt.split z " ").map Tr.str))
  | _ => none
theorem spT_map : ∀ l : List Str, (l.map Tr.str).filterMap spT = l.map fun z => Tr.lst ((Txt.split z " ").map .str)
  | [] => rfl
  | z :: l => by
    rw [List.map_cons, List.filterMap_cons, List.map_cons, spT_map l]
    rfl
theorem told_comp {cf : CF} {mem : List Ob} {lines : List Str} {x0 : Slot} (h : ∀ z ∈ lines, z.length ≤ 100000) (hl : lines.length ≤ 100) :
    compGo (compF (.nm 2) [x0, .none, .none, .none, .none, .none, .none, .none, .none] (kCond gc cf .nul) (kElt gc cf e_told_by_0)) (lines.map .str) mem [] = some (lines.map fun z => Tr.lst ((Txt.split z " ").map .str), mem) := by
  rw [compGo_map (g := spT) (fun x hx => ?_) (by simp [Ev.sizeLine_eq]; omega), List.nil_append, spT_map]
  obtain ⟨z, hz, rfl⟩ := List.mem_map.mp hx
  show _ = some (some (Tr.lst ((Txt.split z " ").map .str)), mem)
  have e1 := split_sp (h z hz)
  generalize Txt.split z " " = W at e1 ⊢
  simp [compF, e_told_by_0, e1, recvOk, isNul, asg]
theorem enum_rows (rows : List Row) (i : Nat) : List.zipWith (fun (i : Nat) x => Tr.tup [.int i, x]) (List.range' i rows.length) (rows.map fun r => Tr.lst ((rowWords r).map .str)) = ((List.range' i rows.length).zip rows).map fun p => .tup [.int p.1, .lst ((rowWords p.2).map .str)] := by
  induction rows generalizing i with
  | nil => rfl
  | cons r rows ih =>
    rw [List.length_cons, List.range'_succ, List.map_cons, List.zipWith_cons_cons, List.zip_cons_cons, List.map_cons, ih]
theorem zip_snd (rows : List Row) (i : Nat) : ((List.range' i rows.length).zip rows).map (·.2) = rows := by
  induction rows generalizing i with
  | nil => rfl
  | cons r rows ih =>
    rw [List.length_cons, List.range'_succ, List.zip_cons_cons, List.map_cons, ih]
theorem zip_len (rows : List Row) (i : Nat) : ((List.range' i rows.length).zip rows).length = rows.length := by simp
theorem told_by {d n : Nat} {mem : List Ob} {rows : List Row} (hd : 5 ≤ d) (h : MOk n rows) : callF gc 64 fs d n_told_by [.str (macText n rows)] mem = some (.tup [.int n, .lst (rows.map trRow), .dt (rows.map keyR) (vals rows.length)], mem) := by
  obtain ⟨d, rfl⟩ : ∃ d', d = d' + 1 := ⟨d - 1, by omega⟩
  have hs : ∀ r ∈ rows, r.small := fun r hr => (h.ok r hr).small h.hi
  have hl := h.len
  have h9 := h.hi
  have lt := len_text (m := n) (by omega) hs
  have e1 := split_nl (z := macText n rows) (by omega)
  rw [split_text] at e1
  have e2 := told_comp (cf := callF gc 64 fs d) (mem := mem) (lines := macLines n rows) (x0 := .val (.str (macText n rows))) (fun z hz => by
    simp only [macLines, List.mem_cons, List.mem_map] at hz
    rcases hz with rfl | ⟨r, hr, rfl⟩
    · have := len_first (m := n) (by omega); omega
    · have := len_row (hs r hr); omega) (by simp [macLines]; omega)
  have e3 := figures_in (d := d) (m := mem) (by omega) h.lo h.hi
  obtain ⟨y6, y7, y8, e4⟩ := told_loop (d := d) (n := n) (mem := mem) (x0 := .val (.str (macText n rows))) (x1 := .val (.lst ((macLines n rows).map fun z => .lst ((Txt.split z " ").map .str)))) (x2 := .none) (by omega) h.hi ((List.range' 0 rows.length).zip rows) [] .none .none .none (fun p hp => h.ok _ (by
    have := List.mem_map_of_mem (f := Prod.snd) hp
    rwa [zip_snd] at this)) (by rw [List.nil_append, zip_snd]; exact h.nd) (by rw [zip_len]; simp; omega)
  rw [zip_snd, zip_len, List.nil_append, List.map_nil, List.map_nil, ← enum_rows, List.length_nil, Nat.zero_add, ← List.range_eq_range'] at e4
  have ml : (macLines n rows).map (fun z => Tr.lst ((Txt.split z " ").map .str)) = .lst [.str "figures", .str (numS n)] :: rows.map fun r => .lst ((rowWords r).map .str) := by
    simp only [macLines, List.map_cons, split_first, List.map_map, List.map_nil]
    congr 1
    refine List.map_congr_left fun r _ => ?_
    show Tr.lst ((Txt.split (rowText r) " ").map .str) = _
    rw [split_row]
  rw [ml] at e2 e4
  have hne : eqT (.lst (rows.map trRow)) (.lst []) = some false := by
    rw [eqD_nil (n := 2) ?_ (by omega)]
    · have := h.ne
      cases rows with
      | nil => exact absurd rfl this
      | cons _ _ => rfl
    · rw [gds_iff]
      intro t ht
      obtain ⟨r, _, rfl⟩ := List.mem_map.mp ht
      cases hs : r.s <;> simp [trRow, gd, gds, sd, hs] <;> decide +kernel
  have hz : (List.range rows.length).zipWith (fun (i : Nat) x => Tr.tup [.int i, x]) (rows.map fun r => Tr.lst ((rowWords r).map .str)) = enumT (rows.map fun r => Tr.lst ((rowWords r).map .str)) := by
    unfold enumT
    rw [List.length_map]
  rw [hz] at e4
  have v0 : vals 0 = [] := rfl
  rw [v0] at e4
  rw [callS (fn := f_told_by) rfl rfl rfl]
  have ln : ((rows.map fun r => Tr.lst ((rowWords r).map .str)).length : Int) = rows.length := by simp
  generalize (rows.map fun r => Tr.lst ((rowWords r).map .str)) = L at *
  generalize vals rows.length = V at *
  generalize rows.map trRow = RR at *
  generalize rows.map keyR = KK at *
  generalize (macLines n rows).map Tr.str = ML at *
  generalize macText n rows = T at *
  generalize numS n = NS at *
  have hi : items 3 [.lst L] = some (enumT L) := rfl
  have hc : cutT (Tr.lst [.str "figures", .str NS] :: L) (some 1) none = L := by
    unfold cutT
    simp [HT.sIx]
  have hsl : slT (.lst (Tr.lst [.str "figures", .str NS] :: L)) (some 1) none = some (.lst L) := by
    show some (Tr.lst (cutT _ (some 1) none)) = _
    rw [hc]
  have hx : idxT (.lst (Tr.lst [.str "figures", .str NS] :: L)) (.int 0) = some (.lst [.str "figures", .str NS]) := by rw [idxT_l0]; rfl
  have hm : items 0 [.lst ML] = some ML := rfl
  generalize (Tr.lst [.str "figures", .str NS] :: L) = LL at *
  simp [f_told_by, b_told_by, e1, e2, e3, e4, hi, hsl, hx, hm, hne, recvOk, isNul, asInt, manyGo, ownOb, wipeE, Slot.lock, dspT, d_own]
theorem machine {d n : Nat} {mem : List Ob} {rows : List Row} (hd : 7 ≤ d) (h : MOk n rows) : callF gc 64 fs d n_Machine [.str (macText n rows)] mem = some (trM n rows, mem ++ [.gone]) := by
  obtain ⟨d, rfl⟩ : ∃ d', d = d' + 2 := ⟨d - 2, by omega⟩
  have e := told_by (d := d) (mem := mem ++ [.ins "Machine" [] []]) (by omega) h
  have hg : ∀ x : Ob, (mem ++ [x])[mem.length]? = some x := fun x => by simp
  have hs : ∀ x y : Ob, (mem ++ [x]).set mem.length y = mem ++ [y] := fun x y => by simp
  rw [callC (fn := f_Machine) (c := "Machine") rfl rfl rfl]
  unfold trM
  generalize vals rows.length = V at *
  generalize rows.map trRow = RR at *
  generalize rows.map keyR = KK at *
  generalize macText n rows = T at *
  have s1 : ∀ t : Tr, setF [] [] ("own_text" : Str) t = ([("own_text" : Str)], [t]) := fun t => rfl
  have s2 : ∀ t u : Tr, setF [("own_text" : Str)] [u] ("own_figures" : Str) t = ([("own_text" : Str), ("own_figures" : Str)], [u, t]) := fun t u => rfl
  have s3 : ∀ t u v : Tr, setF [("own_text" : Str), ("own_figures" : Str)] [u, v] ("own_rows" : Str) t = ([("own_text" : Str), ("own_figures" : Str), ("own_rows" : Str)], [u, v, t]) := fun t u v => rfl
  have s4 : ∀ t u v w : Tr, setF [("own_text" : Str), ("own_figures" : Str), ("own_rows" : Str)] [u, v, w] ("own_by_rests" : Str) t = ([("own_text" : Str), ("own_figures" : Str), ("own_rows" : Str), ("own_by_rests" : Str)], [u, v, w, t]) := fun t u v w => rfl
  simp [f_Machine, b_Machine, e, hg, hs, asg, asgs, doneC, s1, s2, s3, s4]
end G
/-! The law's own machine, its text. -/
namespace G
open Ev PySem L2
def trO (m : Nat) (rows : List Row) : Tr := .dk [.inr "m", .inr "rows"] [.int m, .lst (rows.map trRow)]
theorem str_num {n : Nat} (h : n < 100) : biT .strOf [.int (n : Int)] = some (.str (numS n)) := by
  have : (n : Int).natAbs.log2 < 1920 := log2_le_of (by omega) (Nat.lt_of_lt_of_le (show n < 2 ^ 7 by omega) (Nat.pow_le_pow_right (by omega) (by omega)))
  exact if_pos this
theorem trO_m (m : Nat) (rows : List Row) : idxT (trO m rows) (.str "m") = some (.int m) := rfl
theorem trO_rows (m : Nat) (rows : List Row) : idxT (trO m rows) (.str "rows") = some (.lst (rows.map trRow)) := by
  rfl
theorem strsOf_map : ∀ l : List Str, strsOf (l.map Tr.str) = some l
  | [] => rfl
  | z :: l => by
    rw [List.map_cons]
    simp only [strsOf, strsOf_map l]
theorem join_of {a : Str} {l : List Str} (h : (l.map (·.length)).sum + l.length * a.length ≤ 16777216) : mtT .join (.str a) [.lst (l.map Tr.str)] = some (.str (Txt.join a l)) := by
  simp only [mtT, joinT, strsOf_map]
  rw [if_pos h]
theorem join_row {r : Row} (h : r.small) : mtT .join (.str " ") [.lst ((rowWords r).map Tr.str)] = some (.str (rowText r)) := by
  refine join_of ?_
  have h2 := words_sum h
  have e : (" " : Str).length = 1 := by decide +kernel
  have e2 : (rowWords r).length = 5 := rfl
  rw [e, e2]
  omega
theorem join_text {m : Nat} {rows : List Row} (h : m < 100) (hr : ∀ r ∈ rows, r.small) (hl : rows.length ≤ 80) : mtT .join (.str "\n") [.lst ((macLines m rows).map Tr.str)] = some (.str (macText m rows)) := by
  refine join_of ?_
  have h2 := lines_sum h hr
  have e : ("\n" : Str).length = 1 := by decide +kernel
  have e2 : (macLines m rows).length = rows.length + 1 := by simp [macLines]
  rw [e, e2]
  omega
theorem text_row {cf : CF} {mem : List Ob} {x0 x1 x2 : Slot} {r : Row} (h : r.small) : compF (.nm 3) [x0, x1, x2, .none] (kCond gc cf .nul) (kElt gc cf e_law_machine_text_1) (trRow r) mem = some (some (.str (rowText r)), mem) := by
  have e1 := join_row h
  have n1 := str_num h.1
  have n2 := str_num h.2.1
  have n3 := str_num h.2.2
  simp only [rowWords, List.map_cons, List.map_nil] at e1
  have sl : ∀ a b c e : Tr, slT (.tup [a, b, c, e]) none (some 3) = some (.tup [a, b, c]) := fun a b c e => rfl
  have it : ∀ l : List Tr, items 0 [.tup l] = some l := fun l => rfl
  unfold trRow
  generalize rowText r = RT at *
  generalize numS r.a = A at *
  generalize numS r.b = B at *
  generalize numS r.f = C at *
  generalize sd r.s = S at *
  generalize (r.a : Int) = ia at *
  generalize (r.b : Int) = ib at *
  generalize (r.f : Int) = ic at *
  have inner : ∀ env : List Slot, env.length = 4 → compGo (compF (.nm 2) env (kCond gc cf .nul) (kElt gc cf e_law_machine_text_0)) [.int ia, .int ib, .int ic] mem [] = some ([.str A, .str B, .str C], mem) := fun env he => by
    match env, he with
    | [a, b, c, e], _ => simp [compGo, compF, asg, e_law_machine_text_0, n1, n2, n3, isNul, -b_strI]
  have a1 : opB .add (.lst [.str "row"]) (.lst [.str A, .str B, .str C]) = some (.lst [.str "row", .str A, .str B, .str C]) := opB_addL (by rw [Ev.sizeLine_eq]; simp)
  have a2 : opB .add (.lst [.str "row", .str A, .str B, .str C]) (.lst [.str S]) = some (.lst [.str "row", .str A, .str B, .str C, .str S]) := opB_addL (by rw [Ev.sizeLine_eq]; simp)
  simp [compF, asg, e_law_machine_text_1, e1, sl, it, inner, a1, a2, recvOk, isNul, asInt, wipeE]
theorem machine_text {d n : Nat} {mem : List Ob} {rows : List Row} (hd : 1 ≤ d) (h : MOk n rows) : callF gc 64 fs d n_law_machine_text [trO n rows] mem = some (.str (macText n rows), mem) := by
  obtain ⟨d, rfl⟩ : ∃ d', d = d' + 1 := ⟨d - 1, by omega⟩
  have hs : ∀ r ∈ rows, r.small := fun r hr => (h.ok r hr).small h.hi
  have hl := h.len
  have h9 := h.hi
  have e1 := join_text (m := n) (rows := rows) (by omega) hs hl
  have e2 : compGo (compF (.nm 3) [.val (trO n rows), .none, .none, .none] (kCond gc (callF gc 64 fs d) .nul) (kElt gc (callF gc 64 fs d) e_law_machine_text_1)) (rows.map trRow) mem [] = some ((rows.map rowText).map .str, mem) := by
    have key : ∀ (rest : List Row) (acc : List Tr), (∀ r ∈ rest, r.small) → acc.length + rest.length ≤ 100 → compGo (compF (.nm 3) [.val (trO n rows), .none, .none, .none] (kCond gc (callF gc 64 fs d) .nul) (kElt gc (callF gc 64 fs d) e_law_machine_text_1)) (rest.map trRow) mem acc = some (acc ++ (rest.map rowText).map .str, mem) := by
      intro rest
      induction rest with
      | nil => intro acc _ _; simp [compGo]
      | cons r rest ih =>
        intro acc hr hl
        rw [List.length_cons] at hl
        have := text_row (cf := callF gc 64 fs d) (mem := mem) (x0 := .val (trO n rows)) (x1 := .none) (x2 := .none) (hr r (by simp))
        rw [List.map_cons, compGo, this]
        dsimp only
        rw [if_pos (by rw [Ev.sizeLine_eq]; omega), ih _ (fun x hx => hr x (by simp [hx])) (by simp; omega)]
        simp
    have := key rows [] hs (by simp; omega)
    rw [List.nil_append] at this
    exact this
  have f1 : opB .add (.str "figures ") (.str (numS n)) = some (.str (firstLine n)) := opB_addS (by
    have := len_numS (n := n) (by omega)
    have e : ("figures " : Str).length = 8 := by decide +kernel
    rw [e, Ev.sizeLine_eq]
    omega)
  have n1 := str_num (n := n) (by omega)
  have r1 := trO_m n rows
  have r2 := trO_rows n rows
  have po : (trO n rows).pure = true := rfl
  have lo : ∀ s : Sta, s.deref (trO n rows) = trO n rows := fun s => rfl
  have ob : ∀ (y : Tr) (s2 : Sta), kIdx3 y s2 (trO n rows) = Rs.of (idxT (trO n rows) (s2.deref y)) s2 := fun y s2 => rfl
  have hm : items 0 [.lst (rows.map trRow)] = some (rows.map trRow) := rfl
  have hll : ((rows.map rowText).map Tr.str).length ≤ 80 := by simpa using hl
  have hl0 : (rows.map trRow).length ≤ 80 := by simpa using hl
  simp only [macLines, List.map_cons] at e1
  rw [callS (fn := f_law_machine_text) rfl rfl rfl]
  generalize (rows.map rowText).map Tr.str = RT at *
  generalize rows.map trRow = RR at *
  generalize macText n rows = T at *
  generalize firstLine n = FL at *
  generalize numS n = NS at *
  generalize trO n rows = O at *
  have h2 : 1 + RT.length ≤ 16777216 := by omega
  simp [f_law_machine_text, b_law_machine_text, e1, e2, f1, n1, r1, r2, po, lo, ob, hm, h2, recvOk, isNul, wipeE, Slot.lock, d_own, -b_strI, -kIdx3]
end G
/-! What is drawn: one of some, some of a pool, a machine. -/
namespace G
open Ev PySem L2
theorem of_spec {d n k : Nat} {m : List Ob} {l : List Tr} (h : Pot m n k) (hk : k < 1073741824) (hl : l ≠ []) (hp : l.all Tr.pure = true) (hn : l.length < 1000) (hd : 2 ≤ d) :
    ∃ (t : Tr) (m' : List Ob), t ∈ l ∧ callF gc 64 fs d n_law_of [.ob n, .lst l] m = some (t, m') ∧ Pot m' n (k + 1) := by
  obtain ⟨d, rfl⟩ : ∃ d', d = d' + 1 := ⟨d - 1, by omega⟩
  have hl0 : 0 < l.length := List.length_pos_iff.mpr hl
  obtain ⟨j, L, e, h0, h1, P⟩ := take_spec (d := d) (e := 0) (u := (l.length : Int)) h hk (by omega) (by omega) (by omega)
  obtain ⟨i, rfl⟩ : ∃ i : Nat, j = i := ⟨j.toNat, by omega⟩
  have hi : i < l.length := by omega
  have e2 : idxT (.lst l) (.int (i : Int)) = some l[i] := by
    rw [show idxT (.lst l) (.int (i : Int)) = atI l i from rfl, Ev.atI_nat]
    simp [hi]
  have hpi : Tr.pure l[i] = true := by
    rw [List.all_eq_true] at hp
    exact hp _ (by simp)
  refine ⟨l[i], _, by simp, ?_, P⟩
  generalize m.set n (.lst L) = m' at e ⊢
  rw [callS (fn := f_law_of) rfl rfl rfl]
  simp [f_law_of, b_law_of, e, e2, hpi]
theorem ixN_nat {n j : Nat} (h : j < n) : ixN n (j : Int) = some j := by
  unfold ixN
  simp [h]
theorem erase_perm {α : Type} {t : α} : ∀ {l : List α} {i : Nat}, l[i]? = some t → (t :: l.eraseIdx i).Perm l
  | [], i, h => by simp at h
  | a :: l, 0, h => by
    simp at h
    subst h
    simp
  | a :: l, i + 1, h => by
    simp only [List.getElem?_cons_succ] at h
    rw [List.eraseIdx_cons_succ]
    exact (List.Perm.swap a t _).trans (List.Perm.cons a (erase_perm h))
theorem some_loop {d n : Nat} {x1 x2 : Slot} (hd : 1 ≤ d) : ∀ (xs : List Tr) (stock found : List Tr) (m : List Ob) (k : Nat) (s5 : Slot), Pot m n k → k + xs.length < 1073741824 → xs.length ≤ stock.length → stock.length + found.length ≤ 100 → stock.all Tr.pure = true → xs.all Tr.pure = true →
    ∃ (stock' found' : List Tr) (m' : List Ob) (s5' : Slot), forGo (.nm 5) (exSs gc (callF gc 64 fs d) 64 l_law_some_0) xs ⟨[.val (.ob n), x1, x2, .own (.lst stock), .own (.lst found), s5], m⟩ = .ok .next ⟨[.val (.ob n), x1, x2, .own (.lst stock'), .own (.lst found'), s5'], m'⟩ ∧ (found' ++ stock').Perm (found ++ stock) ∧ found'.length = found.length + xs.length ∧ Pot m' n (k + xs.length)
  | [], stock, found, m, k, s5, P, _, _, _, _, _ => ⟨stock, found, m, s5, by simp [forGo], List.Perm.refl _, by simp, by simpa using P⟩
  | x :: xs, stock, found, m, k, s5, P, hk, hl, hs, hp, hx => by
    rw [List.length_cons] at hk hl
    obtain ⟨j, L, e, h0, h1, P1⟩ := take_spec (d := d) (e := 0) (u := (stock.length : Int)) P (by omega) (by omega) (by omega) (by omega)
    obtain ⟨i, rfl⟩ : ∃ i : Nat, j = i := ⟨j.toNat, by omega⟩
    have hi : i < stock.length := by omega
    have e2 := ixN_nat hi
    obtain ⟨t, e3⟩ : ∃ t, stock[i]? = some t := ⟨stock[i], by simp [hi]⟩
    have hpi : Tr.pure t = true := by
      rw [List.all_eq_true] at hp
      exact hp _ (List.mem_of_getElem? e3)
    have hxp : x.pure = true := by simp at hx; exact hx.1
    have hlen : (stock.eraseIdx i).length = stock.length - 1 := by rw [List.length_eraseIdx, if_pos hi]
    have hpe : (stock.eraseIdx i).all Tr.pure = true := by
      rw [List.all_eq_true] at hp ⊢
      exact fun y hy => hp y (List.mem_of_mem_eraseIdx hy)
    obtain ⟨stock', found', m', s5', f1, f2, f3, f4⟩ := some_loop (x1 := x1) (x2 := x2) hd xs (stock.eraseIdx i) (found ++ [t]) _ (k + 1) (.val x) P1 (by omega) (by omega) (by rw [hlen]; simp; omega) hpe (by simp at hx ⊢; exact hx.2)
    refine ⟨stock', found', m', s5', ?_, ?_, by rw [f3]; simp; omega, by rw [List.length_cons, show k + (xs.length + 1) = k + 1 + xs.length by omega]; exact f4⟩
    · generalize m.set n (.lst L) = m1 at e f1
      have step : exSs gc (callF gc 64 fs d) 64 l_law_some_0 ⟨[.val (.ob n), x1, x2, .own (.lst stock), .own (.lst found), .val x], m⟩ = .ok .next ⟨[.val (.ob n), x1, x2, .own (.lst (stock.eraseIdx i)), .own (.lst (found ++ [t])), .val x], m1⟩ := by
        have hl1 : stock.length ≤ 16777216 := by omega
        have hl2 : found.length < 16777216 := by omega
        simp [l_law_some_0, e, e2, e3, hpi, hl1, hl2, d_own]
      have ha : asg (.nm 5) x [.val (.ob n), x1, x2, .own (.lst stock), .own (.lst found), s5] = some [.val (.ob n), x1, x2, .own (.lst stock), .own (.lst found), .val x] := by simp [asg, hxp]
      rw [forGo_cons ha step, f1]
    · refine f2.trans ?_
      rw [List.append_assoc, List.singleton_append]
      exact List.Perm.append_left _ (erase_perm e3)
theorem rgT_len (a b : Int) : (rgT a b).length = (b - a).toNat := by simp [rgT]
theorem rgT_pure (a b : Int) : (rgT a b).all Tr.pure = true := by
  rw [List.all_eq_true]
  intro x hx
  obtain ⟨i, _, rfl⟩ := List.mem_map.mp hx
  rfl
theorem some_spec {d n k many : Nat} {m : List Ob} {pool : List Tr} (h : Pot m n k) (hk : k + many < 1073741824) (hm : many ≤ pool.length) (hl : pool.length ≤ 100) (hp : pool.all Tr.pure = true) (hd : 2 ≤ d) :
    ∃ (found rest : List Tr) (m' : List Ob), callF gc 64 fs d n_law_some [.ob n, .lst pool, .int many] m = some (.lst found, m') ∧ (found ++ rest).Perm pool ∧ found.length = many ∧ Pot m' n (k + many) := by
  obtain ⟨d, rfl⟩ : ∃ d', d = d' + 1 := ⟨d - 1, by omega⟩
  have hr : (rgT 0 (many : Int)).length = many := by rw [rgT_len]; omega
  obtain ⟨stock', found', m', s5', f1, f2, f3, f4⟩ := some_loop (d := d) (n := n) (x1 := .val (.lst pool)) (x2 := .val (.int many)) (by omega) (rgT 0 many) pool [] m k .none h (by rw [hr]; omega) (by rw [hr]; omega) (by simpa using hl) hp (rgT_pure _ _)
  rw [hr] at f3 f4
  refine ⟨found', stock', m', ?_, by simpa using f2, by simpa using f3, f4⟩
  have hi : items 1 [.int (many : Int)] = some (rgT 0 many) := by
    simp only [items]
    exact if_pos (in62_of (by omega))
  rw [callS (fn := f_law_some) rfl rfl rfl]
  generalize rgT 0 (many : Int) = R at *
  simp [f_law_some, b_law_some, hi, f1, manyGo, ownOb]
theorem cells {d : Nat} {m : List Ob} {ns : List Int} (hd : 1 ≤ d) : ∃ c : Nat, c ≤ 3 ∧ (∀ i < c, i < ns.length ∨ (i = 0 ∧ ns = [])) ∧ callF gc 64 fs d n_law_cells [.flst (ns.map .int), .int 3] m = some (.lst (rgT 0 c), m) := by
  obtain ⟨d, rfl⟩ : ∃ d', d = d' + 1 := ⟨d - 1, by omega⟩
  have hl : (ns.map Tr.int).length = ns.length := List.length_map ..
  obtain ⟨c, hc, h3, hi⟩ : ∃ c : Nat, (c : Int) = (if (if (ns.length : Int) < 3 then (ns.length : Int) else 3) > 1 then (if (ns.length : Int) < 3 then (ns.length : Int) else 3) else 1) ∧ c ≤ 3 ∧ ∀ i < c, i < ns.length ∨ (i = 0 ∧ ns = []) := by
    have e0 : ns.length = 0 → ns = [] := List.length_eq_zero_iff.mp
    refine ⟨max 1 (min ns.length 3), ?_, by omega, fun i hi => ?_⟩
    · split <;> split at * <;> omega
    · by_cases h : ns.length = 0
      · exact .inr ⟨by omega, e0 h⟩
      · exact .inl (by omega)
  have key : biT .listRg [.int (if (if (ns.length : Int) < 3 then (ns.length : Int) else 3) > 1 then (if (ns.length : Int) < 3 then (ns.length : Int) else 3) else 1)] = some (.lst (rgT 0 c)) := by
    rw [← hc]
    simp only [biT]
    exact if_pos (by
      rw [Bool.and_eq_true]
      exact ⟨decide_eq_true (by omega), Nat.ble_eq_true_of_le (by omega)⟩)
  refine ⟨c, h3, hi, ?_⟩
  generalize rgT 0 (c : Int) = R at key ⊢
  rw [callS (fn := f_law_cells) rfl rfl rfl]
  generalize ns.map Tr.int = L at hl
  have e1 : biT .len [.flst L] = some (.int ns.length) := by rw [b_lenF, hl]
  have e2 := b_min2 3 (ns.length : Int)
  have e3 := b_max2 1 (if (ns.length : Int) < 3 then (ns.length : Int) else 3)
  generalize (if (ns.length : Int) < 3 then (ns.length : Int) else 3) = A at e2 e3 key
  generalize (if A > 1 then A else 1) = B at e3 key
  simp [f_law_cells, b_law_cells, e1, e2, e3, key, -b_lenF, -b_min2, -b_max2]
/-! ### a drawn machine -/
def trP (p : Nat × Nat) : Tr := .tup [.int p.1, .int p.2]
def rests : Nat → List (Nat × Nat)
  | 2 => [(0, 1), (1, 0), (1, 1)]
  | _ => [(0, 1), (0, 2), (1, 0), (1, 1), (1, 2), (2, 0), (2, 1), (2, 2)]
theorem rests_comp {cf : CF} {mem : List Ob} {x0 x2 x3 x5 x6 x7 : Slot} {m : Nat} (h : m = 2 ∨ m = 3) : evX gc cf (.comp 2 e_law_drawn_machine_0 (.nm 4) [.int 1, .bin .mul (.var 1) (.var 1)] .nul [4]) false ⟨[x0, .val (.int m), .own (.lst []), x3, .none, x5, x6, x7], mem⟩ = .ok (.lst ((rests m).map trP)) ⟨[x0, .val (.int m), .own (.lst []), x3, .none, x5, x6, x7], mem⟩ := by
  rcases h with rfl | rfl <;> kernel_rfl
theorem draw_m {d n k : Nat} {m : List Ob} (h : Pot m n k) (hk : k < 1073741824) (hd : 2 ≤ d) : ∃ (z : Nat) (m' : List Ob), (z = 2 ∨ z = 3) ∧ callF gc 64 fs d n_law_of [.ob n, .lst [.int 2, .int 2, .int 3, .int 3]] m = some (.int z, m') ∧ Pot m' n (k + 1) := by
  obtain ⟨t, m', ht, e, P⟩ := of_spec (d := d) (l := [.int 2, .int 2, .int 3, .int 3]) h hk (by simp) rfl (by simp) hd
  simp at ht
  rcases ht with rfl | rfl
  · exact ⟨2, m', .inl rfl, e, P⟩
  · exact ⟨3, m', .inr rfl, e, P⟩
theorem draw_side {d n k : Nat} {m : List Ob} (h : Pot m n k) (hk : k < 1073741824) (hd : 2 ≤ d) : ∃ (s : Bool) (m' : List Ob), callF gc 64 fs d n_law_of [.ob n, .lst [.str "left", .str "right"]] m = some (.str (sd s), m') ∧ Pot m' n (k + 1) := by
  obtain ⟨t, m', ht, e, P⟩ := of_spec (d := d) (l := [.str "left", .str "right"]) h hk (by simp) rfl (by simp) hd
  simp at ht
  rcases ht with rfl | rfl
  · exact ⟨false, m', e, P⟩
  · exact ⟨true, m', e, P⟩
theorem draw_nat {d n k : Nat} {m : List Ob} {l : List Nat} (h : Pot m n k) (hk : k < 1073741824) (hl : l ≠ []) (hn : l.length < 1000) (hd : 2 ≤ d) : ∃ (v : Nat) (m' : List Ob), v ∈ l ∧ callF gc 64 fs d n_law_of [.ob n, .lst (l.map fun (v : Nat) => .int v)] m = some (.int v, m') ∧ Pot m' n (k + 1) := by
  obtain ⟨t, m', ht, e, P⟩ := of_spec (d := d) (l := l.map fun (v : Nat) => .int v) h hk (by simpa using hl) (by simp) (by simpa using hn) hd
  obtain ⟨v, hv, rfl⟩ := List.mem_map.mp ht
  exact ⟨v, m', hv, e, P⟩
end G
/-! A drawn machine. -/
namespace G
open Ev PySem L2
theorem Pot.mono {m : List Ob} {n k k' : Nat} (h : Pot m n k) (hk : k ≤ k') : Pot m n k' := by
  obtain ⟨o, s, c, h1, h2, h3, h4, h5⟩ := h.ex
  exact ⟨o, s, c, h1, h2, h3, h4, by omega⟩
theorem rows_ne {rows : List Row} (h : rows ≠ []) : eqT (.lst (rows.map trRow)) (.lst []) = some false := by
  rw [eqD_nil (n := 2) ?_ (by omega)]
  · cases rows with
    | nil => exact absurd rfl h
    | cons _ _ => rfl
  · rw [gds_iff]
    intro t ht
    obtain ⟨r, _, rfl⟩ := List.mem_map.mp ht
    cases hs : r.s <;> simp [trRow, gd, gds, sd, hs] <;> decide +kernel
theorem row_step {d n k m a b : Nat} {mem : List Ob} {x3 x4 s7 : Slot} {rows : List Row} (h : Pot mem n k) (hk : k < 1000000) (hd : 2 ≤ d) (hm : m = 2 ∨ m = 3) (hr : ∀ r ∈ rows, ROk m r) (ha : a < m) (hb : b < m) (hn : ¬ (a = 0 ∧ b = 0)) (hl : rows.length ≤ 50) :
    ∃ (r : Row) (mem' : List Ob) (s7' : Slot), r.a = a ∧ r.b = b ∧ ROk m r ∧ exSs gc (callF gc 64 fs d) 64 l_law_drawn_machine_1 ⟨[.val (.ob n), .val (.int m), .own (.lst (rows.map trRow)), x3, x4, .val (.int a), .val (.int b), s7], mem⟩ =
      .ok .next ⟨[.val (.ob n), .val (.int m), .own (.lst ((rows ++ [r]).map trRow)), x3, x4, .val (.int a), .val (.int b), s7'], mem'⟩ ∧ Pot mem' n (k + 3) := by
  have hlen : (rows.map trRow).length < 16777216 := by simp; omega
  by_cases hz : rows = []
  · subst hz
    obtain ⟨v, m1, hv, e1, P1⟩ := draw_nat (d := d) (l := [0]) h (by omega) (by simp) (by simp) hd
    obtain ⟨s, m2, e2, P2⟩ := draw_side (d := d) P1 (by omega) hd
    simp at hv
    subst hv
    refine ⟨⟨a, b, 0, s⟩, m2, .val (.lst [.int 0]), rfl, rfl, ⟨ha, hb, Nat.mul_pos (by omega) (by omega), hn⟩, ?_, P2.mono (by omega)⟩
    have e1' : callF gc 64 fs d n_law_of [.ob n, .lst [.int 0]] mem = some (.int 0, m1) := e1
    have hn : eqT (.lst []) (.lst []) = some true := eqD_nil (n := 2) rfl (by omega)
    simp only [List.map_nil, List.nil_append, List.map_cons, trRow]
    generalize sd s = S at *
    simp [l_law_drawn_machine_1, e1', e2, hn, d_own]
  · obtain ⟨f, hf, hf2⟩ : ∃ f, rows[0]? = some f ∧ f ∈ rows := by
      cases rows with
      | nil => exact absurd rfl hz
      | cons r _ => exact ⟨r, rfl, by simp⟩
    obtain ⟨l, hl1, hl2⟩ : ∃ l, rows.getLast? = some l ∧ l ∈ rows := ⟨rows.getLast hz, List.getLast?_eq_some_getLast hz, List.getLast_mem hz⟩
    have q1 := hr f hf2
    have q2 := hr l hl2
    have mm : m * m = 4 ∨ m * m = 9 := by rcases hm with rfl | rfl <;> simp
    have mi : ((m * m : Nat) : Int) = (m : Int) * m := by simp
    obtain ⟨j, L, e0, j0, j1, P0⟩ := take_spec (d := d) (e := 0) (u := (m : Int) * m) h (by omega) (by omega) (by omega) (by omega)
    obtain ⟨j, rfl⟩ : ∃ i : Nat, j = i := ⟨j.toNat, by omega⟩
    generalize mem.set n (.lst L) = m0 at e0 P0
    obtain ⟨v, m1, hv, e1, P1⟩ := draw_nat (d := d) (l := [0, l.a, l.b, f.a, f.b, j]) P0 (by omega) (by simp) (by simp) hd
    obtain ⟨s, m2, e2, P2⟩ := draw_side (d := d) P1 (by omega) hd
    have hv2 : v < m * m := by
      have w1 := q1.a
      have w2 := q1.b
      have w3 := q2.a
      have w4 := q2.b
      have w5 : m ≤ m * m := by rcases hm with rfl | rfl <;> simp
      simp at hv
      rcases hv with rfl | rfl | rfl | rfl | rfl | rfl <;> omega
    refine ⟨⟨a, b, v, s⟩, m2, .val (.lst [.int 0, .int l.a, .int l.b, .int f.a, .int f.b, .int j]), rfl, rfl, ⟨ha, hb, hv2, hn⟩, ?_, P2.mono (by omega)⟩
    have e1' : callF gc 64 fs d n_law_of [.ob n, .lst [.int 0, .int l.a, .int l.b, .int f.a, .int f.b, .int j]] m0 = some (.int v, m1) := e1
    have hne := rows_ne hz
    have g0 : (rows.map trRow)[0]? = some (.tup [.int f.a, .int f.b, .int f.f, .str (sd f.s)]) := by simp [hf, trRow]
    have g1 : (rows.map trRow).getLast? = some (.tup [.int l.a, .int l.b, .int l.f, .str (sd l.s)]) := by simp [hl1, trRow]
    have e4 : opB .mul (.int (m : Int)) (.int (m : Int)) = some (.int ((m : Int) * m)) := opB_mul (.of64 (by omega) (by omega)) (.of64 (by omega) (by omega))
    rw [List.map_append]
    simp only [List.map_cons, List.map_nil, trRow]
    generalize rows.map trRow = RR at *
    generalize sd s = S at *
    generalize sd f.s = FS at *
    generalize sd l.s = LS at *
    generalize (l.a : Int) = la at *
    generalize (l.b : Int) = lb at *
    generalize (f.a : Int) = fa at *
    generalize (f.b : Int) = fb at *
    generalize (m : Int) * m = M2 at *
    simp [l_law_drawn_machine_1, e0, e1', e2, hne, g0, g1, e4, d_own, hlen]
theorem rows_loop {d n m : Nat} {x3 x4 : Slot} (hd : 2 ≤ d) (hm : m = 2 ∨ m = 3) : ∀ (L : List (Nat × Nat)) (rows : List Row) (mem : List Ob) (k : Nat) (s5 s6 s7 : Slot), Pot mem n k → k + 3 * L.length < 1000000 → (∀ r ∈ rows, ROk m r) → (∀ p ∈ L, p.1 < m ∧ p.2 < m ∧ ¬ (p.1 = 0 ∧ p.2 = 0)) → rows.length + L.length ≤ 50 →
    ∃ (rows' : List Row) (mem' : List Ob) (s5' s6' s7' : Slot), forGo (.tp [.nm 5, .nm 6]) (exSs gc (callF gc 64 fs d) 64 l_law_drawn_machine_1) (L.map trP) ⟨[.val (.ob n), .val (.int m), .own (.lst (rows.map trRow)), x3, x4, s5, s6, s7], mem⟩ =
      .ok .next ⟨[.val (.ob n), .val (.int m), .own (.lst ((rows ++ rows').map trRow)), x3, x4, s5', s6', s7'], mem'⟩ ∧ rows'.map (fun r => (r.a, r.b)) = L ∧ (∀ r ∈ rows', ROk m r) ∧ Pot mem' n (k + 3 * L.length)
  | [], rows, mem, k, s5, s6, s7, P, _, _, _, _ => ⟨[], mem, s5, s6, s7, by simp [forGo], rfl, by simp, by simpa using P⟩
  | p :: L, rows, mem, k, s5, s6, s7, P, hk, hr, hp, hl => by
    rw [List.length_cons] at hk hl
    obtain ⟨h1, h2, h3⟩ := hp p (by simp)
    obtain ⟨r, m1, s7', r1, r2, r3, e1, P1⟩ := row_step (x3 := x3) (x4 := x4) (s7 := s7) P (by omega) hd hm hr h1 h2 h3 (by omega)
    obtain ⟨rows', m2, t5, t6, t7, e2, q1, q2, P2⟩ := rows_loop (x3 := x3) (x4 := x4) hd hm L (rows ++ [r]) m1 (k + 3) (.val (.int p.1)) (.val (.int p.2)) s7' P1 (by omega) (by
      intro x hx
      rcases List.mem_append.mp hx with hx | hx
      · exact hr x hx
      · rw [List.mem_singleton.mp hx]; exact r3) (fun x hx => hp x (by simp [hx])) (by simp; omega)
    refine ⟨r :: rows', m2, t5, t6, t7, ?_, by rw [List.map_cons, q1, r1, r2], ?_, P2.mono (by simp; omega)⟩
    · have ha : asg (.tp [.nm 5, .nm 6]) (trP p) [.val (.ob n), .val (.int m), .own (.lst (rows.map trRow)), x3, x4, s5, s6, s7] = some [.val (.ob n), .val (.int m), .own (.lst (rows.map trRow)), x3, x4, .val (.int p.1), .val (.int p.2), s7] := by simp [trP, asg, asgs]
      rw [List.map_cons, forGo_cons ha e1, e2]
      simp
    · intro x hx
      rcases List.mem_cons.mp hx with rfl | hx
      · exact r3
      · exact q2 x hx
theorem from_map {α : Type} {f : α → Tr} {l : List α} : ∀ {ts : List Tr}, (∀ t ∈ ts, t ∈ l.map f) → ∃ L : List α, ts = L.map f ∧ ∀ x ∈ L, x ∈ l
  | [], _ => ⟨[], rfl, by simp⟩
  | t :: ts, h => by
    obtain ⟨x, hx, rfl⟩ := List.mem_map.mp (h t (by simp))
    obtain ⟨L, rfl, h2⟩ := from_map (ts := ts) fun y hy => h y (by simp [hy])
    exact ⟨x :: L, rfl, by simpa using ⟨hx, h2⟩⟩
/-- the key that a tree stands for -/
def pairOf : Tr → Nat × Nat
  | .tup (.int a :: .int b :: _) => (a.toNat, b.toNat)
  | _ => (0, 0)
theorem pairOf_P (p : Nat × Nat) : pairOf (trP p) = p := rfl
theorem pairOf_R (r : Row) : pairOf (trRow r) = (r.a, r.b) := rfl
theorem keyR_of (rows : List Row) : rows.map keyR = (rows.map fun r => (r.a, r.b)).map fun p => [.inl (p.1 : Int), .inl (p.2 : Int)] := by
  rw [List.map_map]
  rfl
theorem key_inj : Function.Injective (fun p : Nat × Nat => ([.inl (p.1 : Int), .inl (p.2 : Int)] : List Key)) := fun p q h => by
  simp at h
  obtain ⟨h1, h2⟩ := h
  exact Prod.ext (by omega) (by omega)
theorem nodup_keys {rows : List Row} (h : (rows.map fun r => (r.a, r.b)).Nodup) : (rows.map keyR).Nodup := by
  rw [keyR_of]
  exact List.Pairwise.map _ (fun a b hab e => hab (key_inj e)) h
theorem rests_ok {m : Nat} (hm : m = 2 ∨ m = 3) : (∀ p ∈ rests m, p.1 < m ∧ p.2 < m ∧ ¬ (p.1 = 0 ∧ p.2 = 0)) ∧ (rests m).Nodup ∧ 3 ≤ (rests m).length ∧ (rests m).length ≤ 8 := by
  rcases hm with rfl | rfl <;> decide
theorem map_pairOf : ∀ l : List (Nat × Nat), (l.map trP).map pairOf = l
  | [] => rfl
  | p :: l => by rw [List.map_cons, List.map_cons, map_pairOf l, pairOf_P]
theorem drawn_machine {d n k : Nat} {mem : List Ob} (h : Pot mem n k) (hk : k < 900000) (hd : 4 ≤ d) :
    ∃ (m : Nat) (rows : List Row) (mem' : List Ob), (m = 2 ∨ m = 3) ∧ MOk m rows ∧ rows.length ≤ 8 ∧ callF gc 64 fs d n_law_drawn_machine [.ob n] mem = some (trO m rows, mem') ∧ Pot mem' n (k + 100) := by
  obtain ⟨d, rfl⟩ : ∃ d', d = d' + 1 := ⟨d - 1, by omega⟩
  obtain ⟨m, m1, hm, e1, P1⟩ := draw_m h (by omega) (show 2 ≤ d by omega)
  obtain ⟨q1, q2, q3, q4⟩ := rests_ok hm
  have e2 := rests_comp (cf := callF gc 64 fs d) (mem := m1) (x0 := .val (.ob n)) (x2 := .none) (x3 := .none) (x5 := .none) (x6 := .none) (x7 := .none) hm
  obtain ⟨j, L, e3, j0, j1, P2⟩ := take_spec (d := d) (e := 0) (u := 5) P1 (by omega) (by omega) (by omega) (by omega)
  obtain ⟨j, rfl⟩ : ∃ i : Nat, j = i := ⟨j.toNat, by omega⟩
  generalize m1.set n (.lst L) = m2 at e3 P2
  obtain ⟨many, hmany, many1, many2⟩ : ∃ many : Nat, (many : Int) = (if 2 + (j : Int) < ((rests m).length : Int) then 2 + (j : Int) else ((rests m).length : Int)) ∧ 2 ≤ many ∧ many ≤ (rests m).length := by
    refine ⟨min (2 + j) (rests m).length, ?_, by omega, by omega⟩
    split <;> omega
  have plen : ((rests m).map trP).length = (rests m).length := List.length_map ..
  have pp : ((rests m).map trP).all Tr.pure = true := by
    rw [List.all_eq_true]
    intro x hx
    obtain ⟨p, _, rfl⟩ := List.mem_map.mp hx
    rfl
  obtain ⟨found, left, m3, e4, f1, f2, P3⟩ := some_spec (d := d) (many := many) (pool := (rests m).map trP) P2 (by omega) (by omega) (by omega) pp (by omega)
  obtain ⟨PL, rfl, pl2⟩ := from_map (f := trP) (l := rests m) (ts := found) (fun t ht => f1.subset (List.mem_append_left _ ht))
  have pnd : PL.Nodup := by
    have z : (((PL.map trP ++ left).map pairOf)).Perm (((rests m).map trP).map pairOf) := f1.map _
    rw [map_pairOf, List.map_append, map_pairOf] at z
    have := (z.nodup_iff).mpr q2
    exact (List.nodup_append.mp this).1
  rw [List.length_map] at f2
  obtain ⟨rows, m4, t5, t6, t7, e5, r1, r2, P4⟩ := rows_loop (d := d) (n := n) (x3 := .val (.lst ((rests m).map trP))) (x4 := .none) (by omega) hm PL [] m3 _ .none .none .none P3 (by omega) (by simp) (fun p hp => q1 p (pl2 p hp)) (by simp; omega)
  have rlen : rows.length = many := by
    have := congrArg List.length r1
    simpa [f2] using this
  have rp : (rows.map trRow).all Tr.pure = true := by
    rw [List.all_eq_true]
    intro x hx
    obtain ⟨p, _, rfl⟩ := List.mem_map.mp hx
    rfl
  have rl : (rows.map trRow).length = rows.length := List.length_map ..
  obtain ⟨found2, left2, m5, e6, f3, f4, P5⟩ := some_spec (d := d) (many := rows.length) (pool := rows.map trRow) P4 (by omega) (by omega) (by omega) rp (by omega)
  obtain ⟨rows2, rfl, rr2⟩ := from_map (f := trRow) (l := rows) (ts := found2) (fun t ht => f3.subset (List.mem_append_left _ ht))
  rw [List.length_map] at f4
  have nd : (rows2.map fun r => (r.a, r.b)).Nodup := by
    have z : (((rows2.map trRow ++ left2).map pairOf)).Perm ((rows.map trRow).map pairOf) := f3.map _
    have z2 : ∀ rows : List Row, (rows.map trRow).map pairOf = rows.map fun r => (r.a, r.b) := fun rows => by
      rw [List.map_map]
      rfl
    rw [List.map_append, z2, z2, r1] at z
    have := (z.nodup_iff).mpr pnd
    exact (List.nodup_append.mp this).1
  refine ⟨m, rows2, m5, hm, ⟨by omega, by omega, fun r hr => r2 r (rr2 r hr), nodup_keys nd, fun e => by rw [e] at f4; simp at f4; omega, by omega⟩, by omega, ?_, P5.mono (by omega)⟩
  have a1 : biT .len [.lst ((rests m).map trP)] = some (.int (rests m).length) := by rw [b_lenL, plen]
  have a2 : biT .min2 [.int (rests m).length, .int (2 + (j : Int))] = some (.int many) := by rw [b_min2, hmany]
  have a3 : items 0 [.lst (PL.map trP)] = some (PL.map trP) := rfl
  have a4 : biT .len [.lst (rows.map trRow)] = some (.int rows.length) := by rw [b_lenL, rl]
  have a5 : ∀ x y : Tr, dspT [.str "m", x, .str "rows", y] = some ([.inr "m", .inr "rows"], [x, y]) := fun x y => rfl
  have a6 : ([.inr "m", .inr "rows"] : List Key).Nodup ∧ ([.inr "m", .inr "rows"] : List Key).length ≤ 15 := by decide +kernel
  rw [List.nil_append, List.map_nil] at e5
  unfold trO
  rw [callS (fn := f_law_drawn_machine) rfl rfl rfl]
  generalize (rests m).map trP = RS at *
  generalize ((rests m).length : Int) = RN at *
  generalize PL.map trP = PP at *
  generalize rows.map trRow = RR at *
  generalize rows2.map trRow = RR2 at *
  generalize (rows.length : Int) = RL at *
  simp only [List.length_cons, List.length_nil] at a6
  have b1 : exS gc (callF gc 64 fs d) 64 (.set 3 (.comp 2 e_law_drawn_machine_0 (.nm 4) [.int 1, .bin .mul (.var 1) (.var 1)] .nul [4])) ⟨[.val (.ob n), .val (.int m), .own (.lst []), .none, .none, .none, .none, .none], m1⟩ = .ok .next ⟨[.val (.ob n), .val (.int m), .own (.lst []), .val (.lst RS), .none, .none, .none, .none], m1⟩ := by
    rw [s_set, e2, rbind_ok]
    simp
  simp [f_law_drawn_machine, b_law_drawn_machine, e1, b1, e3, e4, e5, e6, a1, a2, a3, a4, a5, a6, manyGo, ownOb, d_own, -s_set, -b_lenL, -b_min2]
end G
/-! Which row goes, what follows. -/
namespace G
open Ev PySem L2
def findR (a b : Int) : Nat → List Row → Option Nat
  | _, [] => none
  | k, r :: rs => if ((r.a : Int), (r.b : Int)) = (a, b) then some k else findR a b (k + 1) rs
def optN : Option Nat → Tr
  | none => .non
  | some k => .int k
def trQ (p : Int × Int) : Tr := .tup [.int p.1, .int p.2]
def optQ : Option (Int × Int) → Tr
  | none => .non
  | some p => trQ p
def handM (m : Nat) (rows : List Row) (p : Int × Int) : Option Nat := findR (p.1 % m) (p.2 % m) 0 rows
def goR (m : Nat) (r : Row) (p : Int × Int) : Int × Int := if r.s then (p.1 / m * m * m + r.f, p.2 / m) else (p.1 / m, p.2 / m * m * m + r.f)
def nextM (m : Nat) (rows : List Row) (p : Int × Int) : Option (Int × Int) := match handM m rows p with
  | none => none
  | some k => match rows[k]? with
    | some r => some (goR m r p)
    | none => none
theorem findR_lt {a b : Int} : ∀ {rows : List Row} {k i : Nat}, findR a b k rows = some i → k ≤ i ∧ i < k + rows.length ∧ ∃ r, rows[i - k]? = some r ∧ (r.a : Int) = a ∧ (r.b : Int) = b
  | [], k, i, h => by simp [findR] at h
  | r :: rs, k, i, h => by
    simp only [findR] at h
    split at h
    · rename_i e
      cases h
      simp at e
      exact ⟨by omega, by simp, r, by simp, e.1, e.2⟩
    · obtain ⟨h1, h2, r', h3, h4⟩ := findR_lt h
      refine ⟨by omega, by rw [List.length_cons]; omega, r', ?_, h4⟩
      rw [show i - k = (i - (k + 1)) + 1 by omega, List.getElem?_cons_succ]
      exact h3
theorem handM_ok {m : Nat} {rows : List Row} {p : Int × Int} {i : Nat} (h : handM m rows p = some i) : i < rows.length ∧ ∃ r, rows[i]? = some r ∧ r ∈ rows := by
  obtain ⟨h1, h2, r, h3, _⟩ := findR_lt h
  exact ⟨by omega, r, by simpa using h3, List.mem_of_getElem? h3⟩
theorem getK_find {a b : Int} : ∀ (rows : List Row) (k : Nat), getK [.inl a, .inl b] (rows.map keyR) ((List.range' k rows.length).map fun (i : Nat) => Tr.int i) = (findR a b k rows).map fun (i : Nat) => Tr.int i
  | [], k => rfl
  | r :: rs, k => by
    rw [List.map_cons, List.length_cons, List.range'_succ, List.map_cons]
    simp only [getK, findR, getK_find rs (k + 1)]
    by_cases h : (r.a : Int) = a ∧ (r.b : Int) = b
    · rw [if_pos (by rw [keyR, h.1, h.2]), if_pos (by rw [h.1, h.2])]
      rfl
    · rw [if_neg (fun e => h (by simpa [keyR] using e)), if_neg (fun e => h (by simpa using e))]
theorem vals_eq (n : Nat) : vals n = (List.range' 0 n).map fun (i : Nat) => Tr.int i := by rw [vals, List.range_eq_range']
/-! the program's -/
def fldM (m : Nat) (rows : List Row) : Prop := True
theorem trM_fig {m : Nat} {rows : List Row} (s1 : Sta) : kFld2 "own_figures" s1 (trM m rows) = .ok (.int m) s1 := rfl
theorem trM_rows {m : Nat} {rows : List Row} (s1 : Sta) : kFld2 "own_rows" s1 (trM m rows) = .ok (.lst (rows.map trRow)) s1 := rfl
theorem trM_by {m : Nat} {rows : List Row} (s1 : Sta) : kFld2 "own_by_rests" s1 (trM m rows) = .ok (.dt (rows.map keyR) (vals rows.length)) s1 := rfl
end G
/-! Words freed. -/
namespace G
open Ev PySem L2
abbrev Syl := Str × Int
def trS (s : Syl) : Tr := .tup [.str s.1, .int s.2]
def trW (w : List Syl) : Tr := .tup (w.map trS)
def gr (x : Str) : Bool := inV (.str x) [.str "x", .str "y", .str "t"]
theorem in_gr (x : Str) : opC2 .inn (.str x) (.tup [.str "x", .str "y", .str "t"]) = some (gr x) := rfl
theorem nin_gr (x : Str) : opC2 .nin (.str x) (.tup [.str "x", .str "y", .str "t"]) = some (!gr x) := rfl
def stepF (f : List Syl) (s : Syl) : List Syl :=
  match f.getLast? with
  | none => if s.2 = 0 then f else f ++ [s]
  | some e => if s.2 = 0 then f else if e.1 = s.1 ∧ (gr s.1 = true ∨ e.2 = -s.2) then (if s.2 + e.2 = 0 then f.dropLast else f.dropLast ++ [(s.1, s.2 + e.2)]) else f ++ [s]
def freedG (f w : List Syl) : List Syl := w.foldl stepF f
def freedW (w : List Syl) : List Syl := freedG [] w
theorem stepF_len (f : List Syl) (s : Syl) : (stepF f s).length ≤ f.length + 1 := by
  unfold stepF
  split
  · split <;> simp
  · split
    · omega
    · split
      · split <;> simp <;> omega
      · simp
theorem stepF_nz {f : List Syl} {s : Syl} (h : ∀ x ∈ f, x.2 ≠ 0) : ∀ x ∈ stepF f s, x.2 ≠ 0 := by
  intro x hx
  unfold stepF at hx
  split at hx
  · split at hx
    · exact h x hx
    · rename_i hz
      rcases List.mem_append.mp hx with hx | hx
      · exact h x hx
      · rw [List.mem_singleton.mp hx]; exact hz
  · split at hx
    · exact h x hx
    · rename_i hz
      split at hx
      · split at hx
        · exact h x ((List.dropLast_sublist f).subset hx)
        · rename_i hz2
          rcases List.mem_append.mp hx with hx | hx
          · exact h x ((List.dropLast_sublist f).subset hx)
          · rw [List.mem_singleton.mp hx]; exact hz2
      · rcases List.mem_append.mp hx with hx | hx
        · exact h x hx
        · rw [List.mem_singleton.mp hx]; exact hz
def OkW (w : List Syl) : Prop := ∀ s ∈ w, PyData.strOk s.1 = true
theorem eq_S {a b : Syl} (ha : PyData.strOk a.1 = true) (hb : PyData.strOk b.1 = true) : eqT (.tup [.str a.1, .int a.2]) (.tup [.str b.1, .int b.2]) = some (decide (a = b)) := by
  simp [eqT, eqD, Tr.data, datas, SeqAt.shaped, PyData.canLay0, PyData.canLayAll0, PyData.depth, PyData.depthAll, PyData.eqv, PyData.eqvAll, ha, hb]
  rw [Bool.eq_iff_iff]
  simp [Prod.ext_iff]
theorem lst_nil {f : List Syl} (h : OkW f) : eqT (.lst (f.map trS)) (.lst []) = some f.isEmpty := by
  have : gds 2 (f.map trS) = true := by
    rw [gds_iff]
    intro t ht
    obtain ⟨p, hp, rfl⟩ := List.mem_map.mp ht
    simp [trS, gd, gds, h p hp]
  rw [eqD_nil this (by omega)]
  simp
theorem map_last {f : List Syl} {e : Syl} (h : f.getLast? = some e) : (f.map trS).getLast? = some (.tup [.str e.1, .int e.2]) := by rw [List.getLast?_map, h]; rfl
end G
/-! Words freed: the law's own; both whole. -/
namespace G
open Ev PySem L2
theorem lfree_step {cf : CF} {mem : List Ob} {x0 : Slot} {f : List Syl} {l : Str} {p : Int} (hf : f.length ≤ 100000) (ho : OkW f) (hl : PyData.strOk l = true) (hz : ∀ x ∈ f, x.2 ≠ 0) : ∃ q : Int,
    exSs gc cf 64 l_law_freed_0 ⟨[x0, .own (.lst (f.map trS)), .val (.str l), .val (.int p)], mem⟩ = .ok .next ⟨[x0, .own (.lst ((stepF f (l, p)).map trS)), .val (.str l), .val (.int q)], mem⟩ := by
  have n1 := lst_nil ho
  have g1 := in_gr l
  have g2 := nin_gr l
  have len : (f.map trS).length = f.length := List.length_map ..
  have lt : f.length < 16777216 := by omega
  have lt3 : f.length - 1 < 16777216 := by omega
  have dl : (f.map trS).dropLast = f.dropLast.map trS := List.map_dropLast.symm
  have ol : ∀ (l : List Tr) (y : Tr) (s2 : Sta), kIdx3 y s2 (.lst l) = Rs.of (idxT (.lst l) (s2.deref y)) s2 := fun l y s2 => rfl
  have ot : ∀ (l : List Tr) (y : Tr) (s2 : Sta), kIdx3 y s2 (.tup l) = Rs.of (idxT (.tup l) (s2.deref y)) s2 := fun l y s2 => rfl
  cases hg : gr l with
  | true =>
    rw [hg] at g1 g2
    cases he : f.getLast? with
    | none =>
      have hn := List.getLast?_eq_none_iff.mp he
      subst hn
      refine ⟨p, ?_⟩
      unfold stepF
      dsimp only
      by_cases hp : p = 0
      · simp [l_law_freed_0, hp, d_own, eqD_nil (n := 2) (l := []) rfl (by omega), trS, g1, g2, -opC2_inT, -opC2_ninT]
      · simp [l_law_freed_0, hp, d_own, eqD_nil (n := 2) (l := []) rfl (by omega), trS, g1, g2, -opC2_inT, -opC2_ninT]
    | some e =>
      obtain ⟨a, q⟩ := e
      have m1 := map_last he
      have ne : f.isEmpty = false := by
        cases f with
        | nil => cases he
        | cons _ _ => rfl
      rw [ne] at n1
      have hq : q ≠ 0 := hz _ (List.mem_of_getLast? he)
      by_cases ha : a = l
      · subst ha
        have ce : opC2 .eq (.str a) (.str a) = some true := by rw [opC2_eqS]; simp
        refine ⟨p + q, ?_⟩
        have st : stepF f (a, p) = if p + q = 0 then f.dropLast else f.dropLast ++ [(a, p + q)] := by
          unfold stepF
          rw [he]
          dsimp only
          by_cases hp : p = 0
          · subst hp
            rw [if_pos rfl, if_neg (by omega), Int.zero_add]
            obtain ⟨ys, rfl⟩ := List.getLast?_eq_some_iff.mp he
            simp
          · rw [if_neg hp, if_pos ⟨rfl, .inl hg⟩]
        rw [st]
        by_cases hs : p + q = 0
        · rw [if_pos hs, ← dl]
          generalize f.map trS = F at *
          simp [l_law_freed_0, d_own, n1, m1, ce, g1, ol, ot, hs, -kIdx3, -opC2_inT, -opC2_eqS, -opC2_ninT]
        · rw [if_neg hs, List.map_append, List.map_cons, List.map_nil, ← dl]
          generalize f.map trS = F at *
          simp [l_law_freed_0, d_own, n1, m1, ce, g1, ol, ot, hs, len, lt3, trS, -kIdx3, -opC2_inT, -opC2_eqS, -opC2_ninT]
      · refine ⟨p, ?_⟩
        have ce : opC2 .eq (.str a) (.str l) = some false := by rw [opC2_eqS]; simp [ha]
        have st : stepF f (l, p) = if p = 0 then f else f ++ [(l, p)] := by
          unfold stepF
          rw [he]
          dsimp only
          by_cases hp : p = 0
          · rw [if_pos hp, if_pos hp]
          · rw [if_neg hp, if_neg hp, if_neg (fun h => ha h.1)]
        rw [st]
        by_cases hp : p = 0
        · rw [if_pos hp]
          generalize f.map trS = F at *
          simp [l_law_freed_0, hp, d_own, n1, m1, ce, g1, g2, ol, ot, -kIdx3, -opC2_inT, -opC2_eqS, -opC2_ninT]
        · rw [if_neg hp, List.map_append, List.map_cons, List.map_nil]
          generalize f.map trS = F at *
          simp [l_law_freed_0, hp, d_own, n1, m1, ce, g1, g2, ol, ot, len, lt, trS, -kIdx3, -opC2_inT, -opC2_eqS, -opC2_ninT]
  | false =>
    rw [hg] at g1 g2
    cases he : f.getLast? with
    | none =>
      have hn := List.getLast?_eq_none_iff.mp he
      subst hn
      refine ⟨p, ?_⟩
      unfold stepF
      dsimp only
      by_cases hp : p = 0
      · simp [l_law_freed_0, hp, d_own, eqD_nil (n := 2) (l := []) rfl (by omega), trS, g1, g2, -opC2_inT, -opC2_ninT]
      · simp [l_law_freed_0, hp, d_own, eqD_nil (n := 2) (l := []) rfl (by omega), trS, g1, g2, -opC2_inT, -opC2_ninT]
    | some e =>
      obtain ⟨a, q⟩ := e
      have m1 := map_last he
      have ne : f.isEmpty = false := by
        cases f with
        | nil => cases he
        | cons _ _ => rfl
      rw [ne] at n1
      have hq : q ≠ 0 := hz _ (List.mem_of_getLast? he)
      have hae := ho _ (List.mem_of_getLast? he)
      have ce := eq_S (a := (a, q)) (b := (l, 0 - p)) hae hl
      dsimp only at ce m1
      refine ⟨p, ?_⟩
      by_cases hc : a = l ∧ q = -p
      · obtain ⟨rfl, rfl⟩ := hc
        have hp : p ≠ 0 := by omega
        have st : stepF f (a, p) = f.dropLast := by
          unfold stepF
          rw [he]
          dsimp only
          rw [if_neg hp, if_pos ⟨rfl, .inr rfl⟩, if_pos (by omega)]
        rw [decide_eq_true (by rw [Int.zero_sub]), Int.zero_sub] at ce
        rw [st, ← dl]
        generalize f.map trS = F at *
        simp [l_law_freed_0, d_own, n1, m1, ce, g1, g2, ol, ot, -kIdx3, -opC2_inT, -opC2_eqS, -opC2_ninT]
      · have st : stepF f (l, p) = if p = 0 then f else f ++ [(l, p)] := by
          unfold stepF
          rw [he]
          dsimp only
          by_cases hp : p = 0
          · rw [if_pos hp, if_pos hp]
          · rw [if_neg hp, if_neg hp, if_neg (fun h => hc ⟨h.1, by rcases h.2 with h | h; rw [hg] at h; cases h; exact h⟩)]
        rw [decide_eq_false (fun h => hc (by
          have h1 := congrArg Prod.fst h
          have h2 := congrArg Prod.snd h
          dsimp only at h1 h2
          exact ⟨h1, by omega⟩))] at ce
        rw [st]
        by_cases hp : p = 0
        · rw [if_pos hp]
          generalize f.map trS = F at *
          subst hp
          simp [l_law_freed_0, d_own, n1, m1, g1, g2, ol, ot, -kIdx3, -opC2_inT, -opC2_eqS, -opC2_ninT] at ce ⊢
          simp [ce]
        · rw [if_neg hp, List.map_append, List.map_cons, List.map_nil]
          generalize f.map trS = F at *
          simp [l_law_freed_0, hp, d_own, n1, m1, ce, g1, g2, ol, ot, len, lt, trS, -kIdx3, -opC2_inT, -opC2_eqS, -opC2_ninT] at ce ⊢
          simp [ce, hp, len, lt]
theorem freedG_cons (f : List Syl) (s : Syl) (w : List Syl) : freedG f (s :: w) = freedG (stepF f s) w := rfl
theorem stepF_ok {f : List Syl} {s : Syl} (h : OkW f) (hs : PyData.strOk s.1 = true) : OkW (stepF f s) := by
  intro x hx
  unfold stepF at hx
  split at hx
  · split at hx
    · exact h x hx
    · rcases List.mem_append.mp hx with hx | hx
      · exact h x hx
      · rw [List.mem_singleton.mp hx]; exact hs
  · split at hx
    · exact h x hx
    · split at hx
      · split at hx
        · exact h x ((List.dropLast_sublist f).subset hx)
        · rcases List.mem_append.mp hx with hx | hx
          · exact h x ((List.dropLast_sublist f).subset hx)
          · rw [List.mem_singleton.mp hx]; exact hs
      · rcases List.mem_append.mp hx with hx | hx
        · exact h x hx
        · rw [List.mem_singleton.mp hx]; exact hs
theorem freedG_len : ∀ (w f : List Syl), (freedG f w).length ≤ f.length + w.length
  | [], f => by simp [freedG]
  | s :: w, f => by
    rw [freedG_cons, List.length_cons]
    have := freedG_len w (stepF f s)
    have := stepF_len f s
    omega
theorem freedG_ok : ∀ (w f : List Syl), OkW f → OkW w → OkW (freedG f w)
  | [], f, hf, _ => hf
  | s :: w, f, hf, hw => by
    rw [freedG_cons]
    exact freedG_ok w _ (stepF_ok hf (hw s (List.mem_cons_self ..))) (fun x hx => hw x (List.mem_cons_of_mem _ hx))
theorem lfree_loop {cf : CF} {mem : List Ob} {x0 : Slot} : ∀ (w f : List Syl) (s2 s3 : Slot), f.length + w.length ≤ 100000 → OkW f → OkW w → (∀ x ∈ f, x.2 ≠ 0) → ∃ t2 t3, forGo (.tp [.nm 2, .nm 3]) (exSs gc cf 64 l_law_freed_0) (w.map trS) ⟨[x0, .own (.lst (f.map trS)), s2, s3], mem⟩ = .ok .next ⟨[x0, .own (.lst ((freedG f w).map trS)), t2, t3], mem⟩
  | [], f, s2, s3, _, _, _, _ => ⟨s2, s3, by simp [forGo, freedG]⟩
  | s :: w, f, s2, s3, hl, hf, hw, hz => by
    rw [List.length_cons] at hl
    obtain ⟨q, e⟩ := lfree_step (cf := cf) (mem := mem) (x0 := x0) (l := s.1) (p := s.2) (f := f) (by omega) hf (hw s (List.mem_cons_self ..)) hz
    have := stepF_len f s
    obtain ⟨t2, t3, ht⟩ := lfree_loop (cf := cf) (mem := mem) (x0 := x0) w (stepF f s) (.val (.str s.1)) (.val (.int q)) (by omega) (stepF_ok hf (hw s (List.mem_cons_self ..))) (fun x hx => hw x (List.mem_cons_of_mem _ hx)) (stepF_nz hz)
    refine ⟨t2, t3, ?_⟩
    have ha : asg (.tp [.nm 2, .nm 3]) (trS s) [x0, .own (.lst (f.map trS)), s2, s3] = some [x0, .own (.lst (f.map trS)), .val (.str s.1), .val (.int s.2)] := by simp [trS, asg, asgs]
    rw [List.map_cons, forGo_cons ha e, ht, freedG_cons]
theorem law_freed {d : Nat} {mem : List Ob} {w : List Syl} (hd : 1 ≤ d) (hw : OkW w) (hl : w.length ≤ 100000) : callF gc 64 fs d n_law_freed [trW w] mem = some (trW (freedW w), mem) := by
  obtain ⟨d, rfl⟩ : ∃ d', d = d' + 1 := ⟨d - 1, by omega⟩
  obtain ⟨t2, t3, e⟩ := lfree_loop (cf := callF gc 64 fs d) (mem := mem) (x0 := .val (trW w)) w [] .none .none (by simpa using hl) (by intro x hx; cases hx) hw (by intro x hx; cases hx)
  rw [List.map_nil] at e
  have hi : items 0 [trW w] = some (w.map trS) := rfl
  have pw : (trW w).pure = true := rfl
  have lw : ∀ s : Sta, s.deref (trW w) = trW w := fun s => rfl
  rw [callS (fn := f_law_freed) rfl rfl rfl]
  have q : trW (freedW w) = .tup ((freedG [] w).map trS) := rfl
  rw [q]
  generalize (freedG [] w).map trS = R at *
  generalize w.map trS = W at *
  generalize trW w = TW at *
  simp [f_law_freed, b_law_freed, hi, e, d_own, pw, lw]
end G
/-! Words undone, t moved, hands' letters. -/
namespace G
open Ev PySem L2
def undoneW (w : List Syl) : List Syl := w.reverse.map fun s => (s.1, -s.2)
def movedW (a b n : Int) : List Syl := [(("y" : Str), -b), (("x" : Str), -a), (("t" : Str), n), (("x" : Str), a), (("y" : Str), b)].filter fun s => decide (s.2 ≠ 0)
theorem comp_filter {α : Type} {f : Tr → List Ob → Option (Option Tr × List Ob)} {tr t2 : α → Tr} {P : α → Bool} {mem : List Ob} : ∀ (xs : List α) (acc : List Tr), (∀ x ∈ xs, f (tr x) mem = some (if P x then some (t2 x) else none, mem)) → acc.length + xs.length ≤ 16777216 →
    compGo f (xs.map tr) mem acc = some (acc ++ (xs.filter P).map t2, mem)
  | [], acc, _, _ => by simp [compGo]
  | x :: xs, acc, h, hl => by
    rw [List.length_cons] at hl
    have hx := h x (List.mem_cons_self ..)
    rw [List.map_cons]
    simp only [compGo, hx]
    by_cases hp : P x = true
    · simp only [hp, if_true]
      rw [if_pos (by rw [Ev.sizeLine_eq]; omega), comp_filter xs (acc ++ [t2 x]) (fun y hy => h y (List.mem_cons_of_mem _ hy)) (by simp; omega), List.filter_cons_of_pos hp]
      simp
    · have hp' : P x = false := by simpa using hp
      simp only [hp', Bool.false_eq_true, if_false]
      rw [comp_filter xs acc (fun y hy => h y (List.mem_cons_of_mem _ hy)) (by omega), List.filter_cons_of_neg hp]
theorem comp_each {α : Type} {f : Tr → List Ob → Option (Option Tr × List Ob)} {tr t2 : α → Tr} {mem : List Ob} (xs : List α) (h : ∀ x ∈ xs, f (tr x) mem = some (some (t2 x), mem)) (hl : xs.length ≤ 16777216) :
    compGo f (xs.map tr) mem [] = some (xs.map t2, mem) := by
  have := comp_filter (f := f) (tr := tr) (t2 := t2) (P := fun _ => true) (mem := mem) xs [] (fun x hx => by rw [if_pos rfl]; exact h x hx) (by simpa using hl)
  rw [List.filter_eq_self.mpr (fun _ _ => rfl), List.nil_append] at this
  exact this
theorem undone_of {d : Nat} {mem : List Ob} {w : List Syl} (hd : 1 ≤ d) (hl : w.length ≤ 100000) : callF gc 64 fs d n_undone_of [trW w] mem = some (trW (undoneW w), mem) := by
  obtain ⟨d, rfl⟩ : ∃ d', d = d' + 1 := ⟨d - 1, by omega⟩
  have e := fun x0 => comp_each (f := compF (.tp [.nm 1, .nm 2]) [x0, .none, .none] (kCond gc (callF gc 64 fs d) .nul) (kElt gc (callF gc 64 fs d) e_undone_of_0)) (tr := trS) (t2 := fun s => trS (s.1, -s.2)) (mem := mem) w.reverse (fun s _ => by simp [compF, asg, asgs, trS, e_undone_of_0, isNul]) (by simp; omega)
  have q : trW (undoneW w) = .tup (w.reverse.map fun s => trS (s.1, -s.2)) := by unfold trW undoneW; rw [List.map_map]; rfl
  have q2 : trW w = .tup (w.map trS) := rfl
  have r : (w.map trS).reverse = w.reverse.map trS := List.map_reverse.symm
  have hi : ∀ l : List Tr, items 0 [.tup l] = some l := fun l => rfl
  rw [callS (fn := f_undone_of) rfl rfl rfl, q, q2]
  rw [← r] at e
  generalize (w.reverse.map fun s => trS (s.1, -s.2)) = R at *
  generalize w.map trS = W at *
  generalize callF gc 64 fs d = cf at *
  simp [f_undone_of, b_undone_of, hi, e, wipeE, Slot.lock]
theorem law_undone {d : Nat} {mem : List Ob} {w : List Syl} (hd : 1 ≤ d) (hl : w.length ≤ 100000) : callF gc 64 fs d n_law_undone [trW w] mem = some (trW (undoneW w), mem) := by
  obtain ⟨d, rfl⟩ : ∃ d', d = d' + 1 := ⟨d - 1, by omega⟩
  have e := fun x0 => comp_each (f := compF (.tp [.nm 1, .nm 2]) [x0, .none, .none] (kCond gc (callF gc 64 fs d) .nul) (kElt gc (callF gc 64 fs d) e_law_undone_0)) (tr := trS) (t2 := fun s => trS (s.1, -s.2)) (mem := mem) w.reverse (fun s _ => by simp [compF, asg, asgs, trS, e_law_undone_0, isNul]) (by simp; omega)
  have q : trW (undoneW w) = .tup (w.reverse.map fun s => trS (s.1, -s.2)) := by unfold trW undoneW; rw [List.map_map]; rfl
  have q2 : trW w = .tup (w.map trS) := rfl
  have r : (w.map trS).reverse = w.reverse.map trS := List.map_reverse.symm
  have hi : ∀ l : List Tr, items 0 [.tup l] = some l := fun l => rfl
  rw [callS (fn := f_law_undone) rfl rfl rfl, q, q2]
  rw [← r] at e
  generalize (w.reverse.map fun s => trS (s.1, -s.2)) = R at *
  generalize w.map trS = W at *
  generalize callF gc 64 fs d = cf at *
  simp [f_law_undone, b_law_undone, hi, e, wipeE, Slot.lock]
theorem law_moved {d : Nat} {mem : List Ob} {a b n : Int} (hd : 1 ≤ d) : callF gc 64 fs d n_law_moved_t [.tup [.int a, .int b], .int n] mem = some (trW (movedW a b n), mem) := by
  obtain ⟨d, rfl⟩ : ∃ d', d = d' + 1 := ⟨d - 1, by omega⟩
  have e := fun x0 x1 x2 => comp_filter (f := compF (.nm 3) [x0, x1, x2, .none] (kCond gc (callF gc 64 fs d) c_law_moved_t_1) (kElt gc (callF gc 64 fs d) e_law_moved_t_0)) (tr := trS) (t2 := trS) (P := fun s : Syl => decide (s.2 ≠ 0)) (mem := mem) [(("y" : Str), -b), (("x" : Str), -a), (("t" : Str), n), (("x" : Str), a), (("y" : Str), b)] [] (fun s _ => by
    obtain ⟨l, p⟩ := s
    by_cases h : p = 0
    · simp [compF, asg, asgs, trS, e_law_moved_t_0, c_law_moved_t_1, isNul, h]
    · simp [compF, asg, asgs, trS, e_law_moved_t_0, c_law_moved_t_1, isNul, h]) (by simp)
  have q : trW (movedW a b n) = .tup (([(("y" : Str), -b), (("x" : Str), -a), (("t" : Str), n), (("x" : Str), a), (("y" : Str), b)].filter fun s : Syl => decide (s.2 ≠ 0)).map trS) := rfl
  have hi : ∀ l : List Tr, items 0 [.lst l] = some l := fun l => rfl
  rw [callS (fn := f_law_moved_t) rfl rfl rfl, q]
  generalize (([(("y" : Str), -b), (("x" : Str), -a), (("t" : Str), n), (("x" : Str), a), (("y" : Str), b)].filter fun s : Syl => decide (s.2 ≠ 0)).map trS) = R at *
  simp only [List.map_cons, List.map_nil, trS, List.nil_append] at e
  generalize callF gc 64 fs d = cf at *
  simp [f_law_moved_t, b_law_moved_t, hi, e, wipeE, Slot.lock, asg, asgs]
def hL (i : Nat) : Str := "h" ++ toString (i : Int)
theorem num_small (i : Nat) (h : i < 100) : ((i : Int)).natAbs.log2 < 1920 := Nat.lt_of_lt_of_le (log2_le_of (k := 7) (by omega) (by show ((i : Int)).natAbs < 128; omega)) (by omega)
theorem len_num : ∀ i : Nat, i < 100 → (toString (i : Int) : Str).length ≤ 2 := by decide +kernel
theorem str_ok : ∀ i : Nat, i < 100 → PyData.strOk (hL i) = true := by decide +kernel
theorem not_gr : ∀ i : Nat, i < 100 → gr (hL i) = false := by decide +kernel
end G
/-! Rows of the book: their words. -/
namespace G
open Ev PySem L2
theorem join_one (z : Str) : Txt.join "" [z] = z := rfl
theorem empty_app (z : Str) : ("" : Str) ++ z = z := TL.ext_tl (by rw [TL.tl_append]; rfl)
theorem law_hand {d i : Nat} {mem : List Ob} (hd : 1 ≤ d) (hi : i < 100) : callF gc 64 fs d n_law_hand [.int i] mem = some (.str (hL i), mem) := by
  obtain ⟨d, rfl⟩ : ∃ d', d = d' + 1 := ⟨d - 1, by omega⟩
  have lz := len_num i hi
  have ls := num_small i hi
  have bs : biT .strOf [.int (i : Int)] = some (.str (toString (i : Int))) := b_strI ls
  have ad : opB .add (.str "h") (.str (toString (i : Int))) = some (.str (hL i)) := by
    have e0 : ("h" : Str).length = 1 := by decide +kernel
    rw [opB_addS (by rw [e0, Ev.sizeLine_eq]; omega)]
    rfl
  rw [callS (fn := f_law_hand) rfl rfl rfl]
  generalize (toString (i : Int) : Str) = z at *
  generalize hL i = H at *
  generalize callF gc 64 fs d = cf at *
  simp [f_law_hand, b_law_hand, bs, ad, -b_strI]
/-! rows -/
inductive Gd where | x | y | t
def Gd.s : Gd → Str
  | .x => "x"
  | .y => "y"
  | .t => "t"
inductive BR where
  | xy (p q : Int)
  | gnd (l : Gd) (i : Nat) (n : Int)
  | kt (n : Int)
  | kh (i : Nat)
def BR.tr : BR → Tr
  | .xy p q => .tup [.str "xy", .int p, .int q]
  | .gnd l i n => .tup [.str l.s, .int i, .int n]
  | .kt n => .tup [.str "kt", .int n]
  | .kh i => .tup [.str "kh", .int i]
def BR.ok (k B : Nat) : BR → Prop
  | .xy p q => p ≠ 0 ∧ q ≠ 0 ∧ p.natAbs < 2 ^ B ∧ q.natAbs < 2 ^ B
  | .gnd _ i n => i < k ∧ n ≠ 0 ∧ n.natAbs < 2 ^ B
  | .kt n => n ≠ 0 ∧ n.natAbs < 2 ^ B
  | .kh i => i < k
theorem BR.pure (r : BR) : r.tr.pure = true := by cases r <;> rfl
def wordGd (m : Nat) (r : Row) (l : Gd) (i : Nat) (n : Int) : List Syl := match l with
  | .t => (hL i, -1) :: movedW r.a r.b n ++ ((hL i, 1) :: undoneW (if r.s then movedW r.f 0 n else movedW 0 r.f n))
  | .x => [(hL i, -1), ("x", m * n), (hL i, 1), ("x", -(n * (if r.s then (m : Int) * m else 1)))]
  | .y => [(hL i, -1), ("y", m * n), (hL i, 1), ("y", -(n * (if r.s then 1 else (m : Int) * m)))]
def wordB (m : Nat) (rows : List Row) : BR → List Syl
  | .xy p q => [("x", p), ("y", q), ("x", -p), ("y", -q)]
  | .gnd l i n => match rows[i]? with
    | some r => wordGd m r l i n
    | none => []
  | .kt n => [("k", -1), ("t", n), ("k", 1), ("t", -n)]
  | .kh i => [("k", -1), (hL i, 1), ("k", 1), (hL i, -1)]
theorem movedW_ok {a b n : Int} : OkW (movedW a b n) := by
  intro s hs
  have h := (List.mem_filter.mp hs).1
  simp only [List.mem_cons, List.not_mem_nil, or_false] at h
  have kx : PyData.strOk "x" = true := by decide +kernel
  have ky : PyData.strOk "y" = true := by decide +kernel
  have kt : PyData.strOk "t" = true := by decide +kernel
  rcases h with rfl | rfl | rfl | rfl | rfl
  · exact ky
  · exact kx
  · exact kt
  · exact kx
  · exact ky
theorem undoneW_ok {w : List Syl} (h : OkW w) : OkW (undoneW w) := by
  intro s hs
  obtain ⟨x, hx, rfl⟩ := List.mem_map.mp hs
  exact h x (List.mem_reverse.mp hx)
theorem movedW_len {a b n : Int} : (movedW a b n).length ≤ 5 := List.length_filter_le ..
theorem undoneW_len (w : List Syl) : (undoneW w).length = w.length := by simp [undoneW]
end G
/-! Ground words and their forms, in plain Lean. -/
namespace G17
open Ev PySem
inductive Le | x | y | t
deriving DecidableEq
abbrev W := List (Le × Int)
abbrev It := (Int × Int) × Int
abbrev Fo := List It × Int × Int
def Le.s : Le → Str
  | .x => "x"
  | .y => "y"
  | .t => "t"
theorem Le.inj (a b : Le) : (a.s = b.s) = (a = b) := by
  cases a <;> cases b <;> simp [Le.s] <;> decide +kernel
def push (p : Int × Int) (k : Int) : List It → List It
  | [] => if k = 0 then [] else [(p, k)]
  | e :: r => if e.1 = p then (if k + e.2 = 0 then r else (p, k + e.2) :: r) else if k = 0 then e :: r else (p, k) :: e :: r
def step : Fo → Le × Int → Fo
  | (s, a, b), (.x, k) => (s, a + k, b)
  | (s, a, b), (.y, k) => (s, a, b + k)
  | (s, a, b), (.t, k) => (push (-a, -b) k s, a, b)
def run (f : Fo) (w : W) : Fo := w.foldl step f
theorem run_cons {f : Fo} {e : Le × Int} {w : W} : run f (e :: w) = run (step f e) w := rfl
theorem run_append {f : Fo} {v w : W} : run f (v ++ w) = run (run f v) w := List.foldl_append ..
def Red : List It → Prop
  | [] => True
  | e :: r => e.2 ≠ 0 ∧ (∀ f ∈ r.head?, e.1 ≠ f.1) ∧ Red r
theorem push_nil {p : Int × Int} {k : Int} : push p k [] = if k = 0 then [] else [(p, k)] := rfl
theorem push_cons {p : Int × Int} {k : Int} {e : It} {r : List It} : push p k (e :: r) = if e.1 = p then (if k + e.2 = 0 then r else (p, k + e.2) :: r) else if k = 0 then e :: r else (p, k) :: e :: r := rfl
theorem push_red {p : Int × Int} {k : Int} {s : List It} (h : Red s) : Red (push p k s) := by
  cases s with
  | nil =>
    rw [push_nil]
    split
    · exact h
    · exact ⟨by assumption, by simp, trivial⟩
  | cons e r =>
    obtain ⟨h1, h2, h3⟩ := h
    rw [push_cons]
    split
    · rename_i he
      split
      · exact h3
      · refine ⟨by assumption, fun f hf => ?_, h3⟩
        rw [← he]
        exact h2 f hf
    · rename_i he
      split
      · exact ⟨h1, h2, h3⟩
      · refine ⟨by assumption, fun f hf => ?_, h1, h2, h3⟩
        simp at hf
        subst hf
        exact fun z => he z.symm
theorem push_zero {p : Int × Int} {s : List It} (h : Red s) : push p 0 s = s := by
  cases s with
  | nil => rfl
  | cons e r =>
    obtain ⟨⟨q, j⟩, rfl⟩ : ∃ z : It, e = z := ⟨e, rfl⟩
    rw [push_cons]
    split
    · rename_i he
      have h1 := h.1
      rw [if_neg (by simpa using h1)]
      simp at he ⊢
      exact he.symm
    · rfl
theorem push_push {p : Int × Int} {k j : Int} {s : List It} (h : Red s) : push p j (push p k s) = push p (k + j) s := by
  cases s with
  | nil =>
    rw [push_nil, push_nil]
    by_cases hk : k = 0
    · subst hk
      rw [if_pos rfl, push_nil, Int.zero_add]
    · rw [if_neg hk, push_cons, if_pos rfl, Int.add_comm j k]
  | cons e r =>
    obtain ⟨h1, h2, h3⟩ := h
    by_cases he : e.1 = p
    · have e1 : ∀ i, push p i (e :: r) = if i + e.2 = 0 then r else (p, i + e.2) :: r := fun i => by rw [push_cons, if_pos he]
      rw [e1, e1]
      by_cases hz : k + e.2 = 0
      · rw [if_pos hz]
        have hr : push p j r = if j = 0 then r else (p, j) :: r := by
          cases r with
          | nil => rfl
          | cons f q =>
            have := h2 f (by simp)
            rw [push_cons, if_neg (by rw [← he]; exact fun z => this z.symm)]
        rw [hr]
        by_cases hj : j = 0
        · rw [if_pos hj, if_pos (by omega)]
        · rw [if_neg hj, if_neg (by omega)]
          congr 2
          omega
      · rw [if_neg hz]
        rw [push_cons, if_pos rfl]
        dsimp only
        by_cases hj : j + (k + e.2) = 0
        · rw [if_pos hj, if_pos (by omega)]
        · rw [if_neg hj, if_neg (by omega)]
          congr 2
          omega
    · have e1 : ∀ i, push p i (e :: r) = if i = 0 then e :: r else (p, i) :: e :: r := fun i => by rw [push_cons, if_neg he]
      rw [e1 k]
      by_cases hk : k = 0
      · rw [if_pos hk, hk, Int.zero_add]
      · rw [if_neg hk, e1]
        rw [push_cons, if_pos rfl, Int.add_comm j k]
theorem step_red {f : Fo} {e : Le × Int} (h : Red f.1) : Red (step f e).1 := by
  obtain ⟨s, a, b⟩ := f
  obtain ⟨l, k⟩ := e
  cases l
  · exact h
  · exact h
  · exact push_red h
theorem run_red : ∀ {w : W} {f : Fo}, Red f.1 → Red (run f w).1
  | [], _, h => h
  | e :: w, f, h => run_red (w := w) (step_red h)
theorem step_zero {f : Fo} {l : Le} (h : Red f.1) : step f (l, 0) = f := by
  obtain ⟨s, a, b⟩ := f
  cases l
  · simp [step]
  · simp [step]
  · simp only [step, push_zero h]
theorem step_step {f : Fo} {l : Le} {k j : Int} (h : Red f.1) : step (step f (l, k)) (l, j) = step f (l, k + j) := by
  obtain ⟨s, a, b⟩ := f
  cases l
  · simp [step, Int.add_assoc]
  · simp [step, Int.add_assoc]
  · simp only [step]
    rw [push_push h]
theorem step_comm {f : Fo} {k j : Int} : step (step f (.x, k)) (.y, j) = step (step f (.y, j)) (.x, k) := rfl
/-! ### letter by letter -/
def sgn (k : Int) : Int := if 0 < k then 1 else -1
def singles (w : W) : W := w.flatMap fun e => List.replicate e.2.natAbs (e.1, sgn e.2)
theorem run_rep {l : Le} {i : Int} : ∀ (n : Nat) {f : Fo}, Red f.1 → run f (List.replicate n (l, i)) = step f (l, n * i)
  | 0, f, h => by
    rw [List.replicate_zero]
    have : ((0 : Nat) : Int) * i = 0 := by simp
    rw [this, step_zero h]
    rfl
  | n + 1, f, h => by
    rw [List.replicate_succ, run_cons, run_rep n (step_red h), step_step h]
    congr 2
    have : ((n + 1 : Nat) : Int) * i = n * i + i := by push_cast; rw [Int.add_mul]; simp
    omega
theorem run_singles : ∀ {w : W} {f : Fo}, Red f.1 → run f (singles w) = run f w
  | [], f, h => rfl
  | e :: w, f, h => by
    show run f (List.replicate e.2.natAbs (e.1, sgn e.2) ++ singles w) = _
    rw [run_append, run_rep _ h]
    have e1 : ((e.2.natAbs : Nat) : Int) * sgn e.2 = e.2 := by
      unfold sgn
      split <;> omega
    rw [e1]
    exact run_singles (w := w) (step_red h)
/-! ### bent words -/
theorem bent_xy {f : Fo} {p q : Int} : run f [(.x, p), (.y, q), (.x, -p), (.y, -q)] = f := by
  obtain ⟨s, a, b⟩ := f
  simp only [run, List.foldl, step]
  congr 2 <;> omega
theorem bent_yx {f : Fo} {p q : Int} : run f [(.y, q), (.x, p), (.y, -q), (.x, -p)] = f := by
  obtain ⟨s, a, b⟩ := f
  simp only [run, List.foldl, step]
  congr 2 <;> omega
theorem bent_l {f : Fo} {l : Le} {p : Int} (h : Red f.1) : run f [(l, p), (l, -p)] = f := by
  show step (step f (l, p)) (l, -p) = f
  rw [step_step h]
  have : p + -p = 0 := by omega
  rw [this, step_zero h]
/-! ### freed words -/
def lpush (e : Le × Int) : W → W
  | [] => if e.2 = 0 then [] else [e]
  | f :: r => if f.1 = e.1 then (if e.2 + f.2 = 0 then r else (e.1, e.2 + f.2) :: r) else if e.2 = 0 then f :: r else e :: f :: r
theorem lpush_nil {e : Le × Int} : lpush e [] = if e.2 = 0 then [] else [e] := rfl
theorem lpush_cons {e f : Le × Int} {r : W} : lpush e (f :: r) = if f.1 = e.1 then (if e.2 + f.2 = 0 then r else (e.1, e.2 + f.2) :: r) else if e.2 = 0 then f :: r else e :: f :: r := rfl
theorem run_lpush {f : Fo} (h : Red f.1) {e : Le × Int} : ∀ {w : W}, run f (lpush e w).reverse = step (run f w.reverse) e
  | [] => by
    rw [lpush_nil]
    split
    · rename_i hz
      obtain ⟨l, k⟩ := e
      simp at hz
      subst hz
      rw [show run f ([] : W).reverse = f from rfl, step_zero h]
    · rfl
  | g :: r => by
    obtain ⟨l, k⟩ := e
    obtain ⟨l', j⟩ := g
    have hr : Red (run f r.reverse).1 := run_red h
    have e1 : run f ((l', j) :: r).reverse = step (run f r.reverse) (l', j) := by rw [List.reverse_cons, run_append]; rfl
    rw [e1]
    rw [lpush_cons]
    dsimp only
    split
    · rename_i hl
      subst hl
      rw [step_step hr]
      split
      · rename_i hz
        rw [show j + k = 0 by omega, step_zero hr]
      · rw [List.reverse_cons, run_append, Int.add_comm k j]
        rfl
    · split
      · rename_i hz
        subst hz
        rw [step_zero (step_red hr)]
        exact e1
      · rw [List.reverse_cons, run_append, e1]
        rfl
def freed (w : W) : W := w.foldl (fun s e => lpush e s) []
theorem run_freed {f : Fo} (h : Red f.1) : ∀ {w v : W}, run f (w.foldl (fun s e => lpush e s) v).reverse = run (run f v.reverse) w
  | [], v => rfl
  | e :: w, v => by
    rw [List.foldl_cons, run_freed h (w := w), run_lpush h]
    rfl
theorem lpush_nz {e : Le × Int} : ∀ {w : W}, (∀ f ∈ w, f.2 ≠ 0) → ∀ f ∈ lpush e w, f.2 ≠ 0
  | [], h => by
    rw [lpush_nil]
    split
    · simp
    · simpa
  | g :: r, h => by
    rw [lpush_cons]
    split
    · split
      · exact fun f hf => h f (by simp [hf])
      · rename_i hz
        intro f hf
        rcases List.mem_cons.mp hf with rfl | hf
        · exact hz
        · exact h f (by simp [hf])
    · split
      · exact h
      · rename_i hz
        intro f hf
        rcases List.mem_cons.mp hf with rfl | hf
        · exact hz
        · exact h f hf
theorem freed_nz : ∀ {w v : W}, (∀ f ∈ v, f.2 ≠ 0) → ∀ f ∈ w.foldl (fun s e => lpush e s) v, f.2 ≠ 0
  | [], v, h => h
  | e :: w, v, h => by
    rw [List.foldl_cons]
    exact freed_nz (w := w) (lpush_nz h)
/-! ### the word of a form -/
def moved (e : It) : W := [(.y, -e.1.2), (.x, -e.1.1), (.t, e.2), (.x, e.1.1), (.y, e.1.2)].filter fun e => decide (e.2 ≠ 0)
theorem run_filter {f : Fo} : ∀ {w : W} {f : Fo}, Red f.1 → run f (w.filter fun e => decide (e.2 ≠ 0)) = run f w
  | [], f, h => rfl
  | e :: w, f, h => by
    obtain ⟨l, k⟩ := e
    by_cases hz : k = 0
    · subst hz
      rw [List.filter_cons_of_neg (by simp), run_filter (f := f) h, run_cons, step_zero h]
    · rw [List.filter_cons_of_pos (by simpa using hz), run_cons, run_cons]
      exact run_filter (f := f) (step_red h)
theorem run_moved {s : List It} {e : It} (h : Red s) : run (s, 0, 0) (moved e) = (push e.1 e.2 s, 0, 0) := by
  unfold moved
  rw [run_filter (f := (s, 0, 0)) h]
  obtain ⟨⟨a, b⟩, k⟩ := e
  simp only [run, List.foldl, step]
  have e1 : ((-(0 + -a), -(0 + -b)) : Int × Int) = (a, b) := by congr 1 <;> omega
  rw [e1]
  congr 2 <;> omega
def backW (f : Fo) : W := f.1.reverse.flatMap moved ++ [(.x, f.2.1), (.y, f.2.2)]
theorem run_moveds : ∀ (s s0 : List It), Red s0 → Red (s.reverse ++ s0) → run (s0, 0, 0) (s.flatMap moved) = (s.reverse ++ s0, 0, 0)
  | [], s0, h0, h => rfl
  | e :: r, s0, h0, h => by
    rw [List.flatMap_cons, run_append, run_moved h0]
    rw [List.reverse_cons, List.append_assoc] at h ⊢
    have red2 : ∀ {a b : List It}, Red (a ++ b) → Red b := by
      intro a b
      induction a with
      | nil => exact id
      | cons x a ih => exact fun z => ih z.2.2
    have h1 : Red (e :: s0) := red2 h
    have e1 : push e.1 e.2 s0 = e :: s0 := by
      cases s0 with
      | nil => rw [push_nil, if_neg h1.1]
      | cons g q => rw [push_cons, if_neg (fun z => h1.2.1 g (by simp) z.symm), if_neg h1.1]
    rw [e1]
    exact run_moveds r (e :: s0) h1 h
theorem run_back {f : Fo} (h : Red f.1) : run ([], 0, 0) (backW f) = f := by
  obtain ⟨s, a, b⟩ := f
  unfold backW
  rw [run_append, run_moveds s.reverse [] trivial (by simpa using h)]
  simp [run, step]
theorem run_freed_back {f : Fo} (h : Red f.1) : run ([], 0, 0) (freed (backW f)).reverse = f := by
  unfold freed
  rw [run_freed (f := ([], 0, 0)) trivial]
  exact run_back h
/-! ### as trees -/
def trS (e : Le × Int) : Tr := .tup [.str e.1.s, .int e.2]
def trP (e : It) : Tr := .tup [.tup [.int e.1.1, .int e.1.2], .int e.2]
def trW (w : W) : Tr := .tup (w.map trS)
def trF (f : Fo) : Tr := .tup [.tup (f.1.reverse.map trP), .int f.2.1, .int f.2.2]
theorem gdS (e : Le × Int) : gd 1 (trS e) = true := by
  obtain ⟨l, k⟩ := e
  cases l <;> simp [trS, gd, gds, Le.s] <;> decide +kernel
theorem gdP (e : It) : gd 2 (trP e) = true := by simp [trP, gd, gds]
theorem gdsS (w : W) : gds 1 (w.map trS) = true := gds_iff.mpr fun t ht => by
  obtain ⟨e, _, rfl⟩ := List.mem_map.mp ht
  exact gdS e
theorem gdsP (w : List It) : gds 2 (w.map trP) = true := gds_iff.mpr fun t ht => by
  obtain ⟨e, _, rfl⟩ := List.mem_map.mp ht
  exact gdP e
theorem nilS (w : W) : eqT (.lst (w.map trS)) (.lst []) = some w.isEmpty := by rw [eqD_nil (gdsS w) (by omega)]; cases w <;> rfl
theorem nilP (w : List It) : eqT (.lst (w.map trP)) (.lst []) = some w.isEmpty := by rw [eqD_nil (gdsP w) (by omega)]; cases w <;> rfl
end G17
/-! Forms put together, undone, moved, in plain Lean. -/
namespace G17
open Ev PySem
def pushL (s : List It) (ts : List It) : List It := ts.foldl (fun s e => push e.1 e.2 s) s
def cat (s r : List It) : List It := pushL s r.reverse
theorem cat_nil (s : List It) : cat s [] = s := rfl
theorem cat_cons (s r : List It) (e : It) : cat s (e :: r) = push e.1 e.2 (cat s r) := by
  unfold cat pushL
  rw [List.reverse_cons, List.foldl_append]
  rfl
theorem cat_red {s : List It} (h : Red s) : ∀ r, Red (cat s r)
  | [] => h
  | e :: r => by rw [cat_cons]; exact push_red (cat_red h r)
theorem cat_push {s : List It} (hs : Red s) {p : Int × Int} {k : Int} {r : List It} (hr : Red r) : cat s (push p k r) = push p k (cat s r) := by
  cases r with
  | nil =>
    rw [push_nil]
    split
    · rename_i hk
      rw [hk, push_zero (cat_red hs [])]
    · rw [cat_cons]
  | cons e r =>
    have hc := cat_red hs r
    rw [push_cons]
    split
    · rename_i he
      rw [cat_cons, he, push_push hc]
      split
      · rename_i hz
        rw [show e.2 + k = 0 by omega, push_zero hc]
      · rw [cat_cons, Int.add_comm k e.2]
    · split
      · rename_i hk
        rw [hk, push_zero (cat_red hs _)]
      · rw [cat_cons]
theorem cat_assoc {x y : List It} (hx : Red x) (hy : Red y) : ∀ z, cat (cat x y) z = cat x (cat y z)
  | [] => rfl
  | e :: z => by rw [cat_cons, cat_cons, cat_assoc hx hy z, cat_push hx (cat_red hy z)]
theorem cat_self : ∀ {r : List It}, Red r → cat [] r = r
  | [], _ => rfl
  | e :: r, h => by
    rw [cat_cons, cat_self h.2.2]
    cases r with
    | nil => rw [push_nil, if_neg h.1]
    | cons f q => rw [push_cons, if_neg (fun z => h.2.1 f (by simp) z.symm), if_neg h.1]
def shf (a b : Int) (r : List It) : List It := r.map fun e => ((e.1.1 - a, e.1.2 - b), e.2)
theorem shf_push (a b : Int) {p : Int × Int} {k : Int} {r : List It} : shf a b (push p k r) = push (p.1 - a, p.2 - b) k (shf a b r) := by
  obtain ⟨p1, p2⟩ := p
  cases r with
  | nil =>
    rw [push_nil]
    unfold shf
    rw [List.map_nil, push_nil]
    split <;> rfl
  | cons e r =>
    obtain ⟨⟨q1, q2⟩, j⟩ := e
    have h1 : shf a b (((q1, q2), j) :: r) = ((q1 - a, q2 - b), j) :: shf a b r := rfl
    rw [h1, push_cons, push_cons]
    by_cases he : (q1, q2) = (p1, p2)
    · have he2 : ((q1 - a, q2 - b) : Int × Int) = (p1 - a, p2 - b) := by cases he; rfl
      rw [if_pos he, if_pos he2]
      split <;> rfl
    · have he2 : ¬ ((q1 - a, q2 - b) : Int × Int) = (p1 - a, p2 - b) := fun z => he (by
        injection z with z1 z2
        rw [show q1 = p1 by omega, show q2 = p2 by omega])
      rw [if_neg he, if_neg he2]
      split <;> rfl
theorem shf_shf (a b c d : Int) (r : List It) : shf a b (shf c d r) = shf (a + c) (b + d) r := by
  unfold shf
  rw [List.map_map]
  apply List.map_congr_left
  intro e _
  show ((e.1.1 - c - a, e.1.2 - d - b), e.2) = ((e.1.1 - (a + c), e.1.2 - (b + d)), e.2)
  congr 2 <;> omega
theorem shf_zero (r : List It) : shf 0 0 r = r := by
  unfold shf
  conv => rhs; rw [← List.map_id r]
  apply List.map_congr_left
  intro e _
  show ((e.1.1 - 0, e.1.2 - 0), e.2) = e
  rw [Int.sub_zero, Int.sub_zero]
theorem run_shift {s : List It} (hs : Red s) (a b : Int) : ∀ (v : W) (r : List It) (c d : Int), Red r → run (cat s (shf a b r), a + c, b + d) v = (cat s (shf a b (run (r, c, d) v).1), a + (run (r, c, d) v).2.1, b + (run (r, c, d) v).2.2)
  | [], r, c, d, _ => rfl
  | (.x, k) :: v, r, c, d, h => by
    rw [run_cons, run_cons]
    have := run_shift hs a b v r (c + k) d h
    simp only [step]
    rw [Int.add_assoc]
    exact this
  | (.y, k) :: v, r, c, d, h => by
    rw [run_cons, run_cons]
    have := run_shift hs a b v r c (d + k) h
    simp only [step]
    rw [Int.add_assoc]
    exact this
  | (.t, k) :: v, r, c, d, h => by
    rw [run_cons, run_cons]
    have h2 := run_shift hs a b v (push (-c, -d) k r) c d (push_red h)
    rw [shf_push, cat_push hs (shf_red h)] at h2
    simp only [step]
    have e : ((-(a + c), -(b + d)) : Int × Int) = (-c - a, -d - b) := by congr 1 <;> omega
    rw [e]
    exact h2
where
  shf_red : ∀ {r : List It}, Red r → Red (shf a b r)
    | [], h => h
    | e :: r, h => by
      refine ⟨h.1, fun f hf => ?_, shf_red h.2.2⟩
      cases r with
      | nil => simp [shf] at hf
      | cons g q =>
        have hg := h.2.1 g (by simp)
        simp [shf] at hf
        subst hf
        intro z
        apply hg
        obtain ⟨⟨e1, e2⟩, ek⟩ := e
        obtain ⟨⟨g1, g2⟩, gk⟩ := g
        dsimp only at z ⊢
        injection z with z1 z2
        rw [show e1 = g1 by omega, show e2 = g2 by omega]
/-- a form behind a form -/
theorem run_cat {s : List It} (hs : Red s) (a b : Int) (v : W) : run (s, a, b) v = (cat s (shf a b (run ([], 0, 0) v).1), a + (run ([], 0, 0) v).2.1, b + (run ([], 0, 0) v).2.2) := by
  have := run_shift hs a b v [] 0 0 trivial
  rw [show cat s (shf a b []) = s from rfl, Int.add_zero, Int.add_zero] at this
  exact this
/-! ### undone -/
def inv (v : W) : W := (v.map fun e => (e.1, -e.2)).reverse
theorem run_inv : ∀ {v : W} {f : Fo}, Red f.1 → run (run f v) (inv v) = f
  | [], f, h => rfl
  | e :: v, f, h => by
    have e1 : inv (e :: v) = inv v ++ [(e.1, -e.2)] := by unfold inv; rw [List.map_cons, List.reverse_cons]
    rw [e1, run_append, show run f (e :: v) = run (step f e) v from rfl, run_inv (v := v) (step_red h)]
    show step (step f e) (e.1, -e.2) = f
    obtain ⟨l, k⟩ := e
    dsimp only
    rw [step_step h, show k + -k = 0 by omega, step_zero h]
def ngt (s : List It) : List It := s.map fun e => (e.1, -e.2)
def turn (s : List It) : List It := (ngt s).reverse
theorem cat_turn : ∀ s : List It, cat s (turn s) = []
  | [] => rfl
  | e :: r => by
    have e1 : cat (e :: r) (turn (e :: r)) = pushL (push e.1 (-e.2) (e :: r)) (ngt r) := by
      unfold cat turn
      rw [List.reverse_reverse]
      rfl
    rw [e1, push_cons, if_pos rfl, if_pos (by omega)]
    have := cat_turn r
    unfold cat turn at this
    rw [List.reverse_reverse] at this
    exact this
theorem turn_turn (s : List It) : turn (turn s) = s := by
  unfold turn ngt
  rw [List.map_reverse, List.reverse_reverse, List.map_map]
  conv => rhs; rw [← List.map_id s]
  apply List.map_congr_left
  intro e _
  show (e.1, - -e.2) = e
  rw [Int.neg_neg]
theorem red_nz : ∀ {s : List It}, Red s → ∀ e ∈ s, e.2 ≠ 0
  | [], _, e, h => by cases h
  | f :: r, hr, e, h => by
    rcases List.mem_cons.mp h with rfl | h
    · exact hr.1
    · exact red_nz hr.2.2 e h
theorem red_adj : ∀ {s : List It}, Red s → ∀ (i : Nat) a b, s[i]? = some a → s[i + 1]? = some b → a.1 ≠ b.1
  | [], _, i, a, b, h, _ => by simp at h
  | f :: r, hr, 0, a, b, h, h' => by
    simp at h h'
    subst h
    exact hr.2.1 b (by rw [List.head?_eq_getElem?]; simpa using h')
  | f :: r, hr, i + 1, a, b, h, h' => red_adj hr.2.2 i a b (by simpa using h) (by simpa using h')
theorem red_of : ∀ {s : List It}, (∀ e ∈ s, e.2 ≠ 0) → (∀ (i : Nat) a b, s[i]? = some a → s[i + 1]? = some b → a.1 ≠ b.1) → Red s
  | [], _, _ => trivial
  | e :: r, h1, h2 => by
    refine ⟨h1 e (by simp), fun f hf => ?_, red_of (fun g hg => h1 g (by simp [hg])) fun i a b ha hb => h2 (i + 1) a b (by simpa using ha) (by simpa using hb)⟩
    rw [List.head?_eq_getElem?] at hf
    exact h2 0 e f rfl (by simpa using hf)
theorem red_turn {s : List It} (h : Red s) : Red (turn s) := by
  refine red_of (fun e he => ?_) fun i a b ha hb => ?_
  · obtain ⟨g, hg, rfl⟩ := List.mem_map.mp (List.mem_reverse.mp he)
    have := red_nz h g hg
    show -g.2 ≠ 0
    omega
  · unfold turn ngt at ha hb
    have l2 : i + 1 < s.length := by have := (List.getElem?_eq_some_iff.mp hb).1; simpa using this
    rw [List.getElem?_reverse (by simp; omega), List.getElem?_map] at ha
    rw [List.getElem?_reverse (by simp; omega), List.getElem?_map] at hb
    rw [List.length_map] at ha hb
    cases e1 : s[s.length - 1 - i]? with
    | none => rw [e1] at ha; cases ha
    | some x =>
      cases e2 : s[s.length - 1 - (i + 1)]? with
      | none => rw [e2] at hb; cases hb
      | some y =>
        rw [e1] at ha
        rw [e2] at hb
        cases ha
        cases hb
        have := red_adj h (s.length - 1 - (i + 1)) y x e2 (by rw [show s.length - 1 - (i + 1) + 1 = s.length - 1 - i by omega]; exact e1)
        exact fun z => this z.symm
/-- what undoes is one -/
theorem only_turn {s h : List It} (hs : Red s) (hh : Red h) (e : cat s h = []) : h = turn s := by
  have h1 : cat (turn s) s = [] := by
    have := cat_turn (turn s)
    rw [turn_turn] at this
    exact this
  have h2 := cat_assoc (x := turn s) (y := s) (red_turn hs) hs h
  rw [h1, e, cat_self hh] at h2
  rw [h2]
  rfl
theorem shf_red (a b : Int) : ∀ {r : List It}, Red r → Red (shf a b r) := fun {r} h => run_shift.shf_red a b h
theorem turn_shf (a b : Int) (s : List It) : turn (shf a b s) = shf a b (turn s) := by
  unfold turn ngt shf
  rw [List.map_map, List.map_reverse, List.map_map]
  rfl
/-- a form undone -/
theorem run_undone (u : W) : run ([], 0, 0) (inv u) = (shf (-(run ([], 0, 0) u).2.1) (-(run ([], 0, 0) u).2.2) (turn (run ([], 0, 0) u).1), -(run ([], 0, 0) u).2.1, -(run ([], 0, 0) u).2.2) := by
  have h1 := run_inv (v := u) (f := ([], 0, 0)) trivial
  have hr : Red (run ([], 0, 0) u).1 := run_red (f := ([], 0, 0)) trivial
  have hg : Red (run ([], 0, 0) (inv u)).1 := run_red (f := ([], 0, 0)) trivial
  generalize run ([], 0, 0) u = F at h1 hr ⊢
  obtain ⟨s, a, b⟩ := F
  dsimp only at hr ⊢
  rw [run_cat hr a b (inv u)] at h1
  generalize run ([], 0, 0) (inv u) = F2 at h1 hg ⊢
  obtain ⟨g, c, d⟩ := F2
  dsimp only at hg h1
  injection h1 with q1 q2
  injection q2 with q2 q3
  have q4 := only_turn hr (shf_red a b hg) q1
  have e : g = shf (-a) (-b) (turn s) := by
    rw [← q4, shf_shf, show -a + a = 0 by omega, show -b + b = 0 by omega, shf_zero]
  rw [e, show c = -a by omega, show d = -b by omega]
/-- a word moved -/
def mover (p q : Int) : W := [(.y, -q), (.x, -p)]
theorem run_mover (p q : Int) (u : W) : run ([], 0, 0) (mover p q ++ u ++ inv (mover p q)) = (shf (-p) (-q) (run ([], 0, 0) u).1, (run ([], 0, 0) u).2.1, (run ([], 0, 0) u).2.2) := by
  have hr : Red (run ([], 0, 0) u).1 := run_red (f := ([], 0, 0)) trivial
  have e1 : run ([], 0, 0) (mover p q) = ([], -p, -q) := by simp [run, mover, step]
  rw [run_append, run_append, e1, run_cat (s := []) trivial (-p) (-q) u]
  rw [cat_self (shf_red _ _ hr)]
  simp only [run, mover, inv, List.map, List.reverse_cons, List.reverse_nil, List.nil_append, List.cons_append, List.foldl, step]
  congr 2 <;> omega
end G17
/-! Letters of hands; words of x, y, t and hands. -/
namespace G
open Ev PySem L2
theorem is_whole {d : Nat} {m : List Ob} {i : Int} (hd : 1 ≤ d) : callF gc 64 fs d n_is_whole [.int i] m = some (.bl true, m) := by
  obtain ⟨d, rfl⟩ : ∃ d', d = d' + 1 := ⟨d - 1, by omega⟩
  rw [callS (fn := f_is_whole) rfl rfl rfl]
  simp [f_is_whole, b_is_whole]
theorem is_tuple {d : Nat} {m : List Ob} {l : List Tr} {lo hi : Int} (h1 : lo ≤ (l.length : Int)) (h2 : (l.length : Int) ≤ hi) (hd : 1 ≤ d) : callF gc 64 fs d n_is_tuple [.tup l, .int lo, .int hi] m = some (.bl true, m) := by
  obtain ⟨d, rfl⟩ : ∃ d', d = d' + 1 := ⟨d - 1, by omega⟩
  rw [callS (fn := f_is_tuple) rfl rfl rfl]
  simp [f_is_tuple, b_is_tuple, h1, h2]
/-! letters of hands -/
theorem hnums {d : Nat} {m : List Ob} : (List.range 100).map (fun n => callF gc 64 fs (d + 2) n_hand_number [.str (hL n)] m) = (List.range 100).map fun (n : Nat) => some (Tr.int n, m) := by kernel_rfl
theorem hand_number {d i : Nat} {m : List Ob} (hd : 2 ≤ d) (h : i < 100) : callF gc 64 fs d n_hand_number [.str (hL i)] m = some (.int i, m) := by
  obtain ⟨d, rfl⟩ : ∃ d', d = d' + 2 := ⟨d - 2, by omega⟩
  have e := congrArg (fun l => l[i]?) (hnums (d := d) (m := m))
  simp only [List.getElem?_map, List.getElem?_range h, Option.map_some] at e
  injection e
theorem hL_inj {i j : Nat} (hi : i < 100) (hj : j < 100) (h : hL i = hL j) : i = j := by
  have a := hand_number (d := 2) (m := []) (by omega) hi
  have b := hand_number (d := 2) (m := []) (by omega) hj
  rw [h, b] at a
  injection a with a
  injection a with a _
  injection a with a
  omega
theorem cuts : (List.range 100).map (fun n => (slT (.str (hL n)) (some 1) none).bind fun t => biT .int [t]) = (List.range 100).map fun (n : Nat) => some (Tr.int n) := by kernel_rfl
theorem cut_hand {i : Nat} (h : i < 100) : ∃ z, slT (.str (hL i)) (some 1) none = some z ∧ biT .int [z] = some (.int i) := by
  have e := congrArg (fun l => l[i]?) cuts
  simp only [List.getElem?_map, List.getElem?_range h, Option.map_some] at e
  injection e with e
  cases hz : slT (.str (hL i)) (some 1) none with
  | none => rw [hz] at e; cases e
  | some z => rw [hz] at e; exact ⟨z, rfl, e⟩
theorem cS {a b : Str} (h : a = b) : opC2 .eq (.str a) (.str b) = some true := by rw [opC2_eqS]; simp [h]
theorem cN {a b : Str} (h : ¬ a = b) : opC2 .eq (.str a) (.str b) = some false := by rw [opC2_eqS]; simp [h]
theorem ne_k : ∀ i : Nat, i < 100 → hL i ≠ "k" := by decide +kernel
theorem is_letter {d i m : Nat} {mem : List Ob} {rows : List Row} (hd : 3 ≤ d) (hi : i < rows.length) (hl : rows.length ≤ 80) : callF gc 64 fs d n_is_letter [trM m rows, .str (hL i)] mem = some (.bl true, mem) := by
  obtain ⟨d, rfl⟩ : ∃ d', d = d' + 1 := ⟨d - 1, by omega⟩
  have g := in_gr (hL i)
  rw [not_gr i (by omega)] at g
  have e := hand_number (d := d) (m := mem) (by omega) (show i < 100 by omega)
  have c := cN (ne_k i (by omega))
  have f2 := @trM_rows m rows
  have dM : ∀ s : Sta, s.deref (trM m rows) = trM m rows := fun s => rfl
  have pM : (trM m rows).pure = true := rfl
  have nM : opC2 .isN (trM m rows) .non = some false := rfl
  have len : (rows.map trRow).length = rows.length := List.length_map ..
  have l2 : (i : Int) < (rows.length : Int) := by omega
  rw [callS (fn := f_is_letter) rfl rfl rfl]
  generalize hL i = h at *
  generalize rows.map trRow = RR at *
  generalize trM m rows = T at *
  generalize callF gc 64 fs d = cf at *
  simp [f_is_letter, b_is_letter, g, c, e, f2, dM, pM, nM, len, l2, -kFld2, -opC2_inT, -opC2_eqS]
theorem allB {α : Type} : ∀ L : List α, biT .all [.lst (L.map fun _ => Tr.bl true)] = some (.bl true) := by
  have h : ∀ L : List α, boolsOf (L.map fun _ => Tr.bl true) = some (L.map fun _ => true) := by
    intro L
    induction L with
    | nil => rfl
    | cons x L ih => simp [boolsOf, ih]
  intro L
  rw [b_all, h L]
  simp
/-- a syllable of x, y, t, or a hand -/
inductive Sy where
  | g (l : G17.Le) (k : Int)
  | h (i : Nat) (w : Int)
def Sy.syl : Sy → Syl
  | .g l k => (l.s, k)
  | .h i w => (hL i, w)
def Sy.ok (n : Nat) : Sy → Prop
  | .g _ k => k ≠ 0
  | .h i w => i < n ∧ (w = 1 ∨ w = -1)
def sW (w : List Sy) : List Syl := w.map Sy.syl
theorem le_gr (l : G17.Le) : gr l.s = true := by cases l <;> decide +kernel
theorem le_ok (l : G17.Le) : PyData.strOk l.s = true := by cases l <;> decide +kernel
theorem sW_ok {w : List Sy} {n : Nat} (h : ∀ s ∈ w, s.ok n) (hn : n ≤ 80) : OkW (sW w) := by
  intro s hs
  obtain ⟨x, hx, rfl⟩ := List.mem_map.mp hs
  cases x with
  | g l k => exact le_ok l
  | h i v => exact str_ok i (by have := (h _ hx).1; omega)
theorem is_syl {d m : Nat} {mem : List Ob} {rows : List Row} {s : Sy} (hd : 4 ≤ d) (hs : s.ok rows.length) (hl : rows.length ≤ 80) : callF gc 64 fs d n_is_syllable [trM m rows, trS s.syl] mem = some (.bl true, mem) := by
  obtain ⟨d, rfl⟩ : ∃ d', d = d' + 1 := ⟨d - 1, by omega⟩
  have pM : (trM m rows).pure = true := rfl
  have dM : ∀ s : Sta, s.deref (trM m rows) = trM m rows := fun s => rfl
  have ot : ∀ (l : List Tr) (y : Tr) (s2 : Sta), kIdx3 y s2 (.tup l) = Rs.of (idxT (.tup l) (s2.deref y)) s2 := fun l y s2 => rfl
  have key : ∃ (z : Str) (k : Int), trS s.syl = .tup [.str z, .int k] ∧ callF gc 64 fs d n_is_letter [trM m rows, .str z] mem = some (.bl true, mem) ∧ callF gc 64 fs d n_is_power_2 [.str z, .int k] mem = some (.bl true, mem) := by
    obtain ⟨d, rfl⟩ : ∃ d', d = d' + 1 := ⟨d - 1, by omega⟩
    cases s with
    | g l k =>
      refine ⟨l.s, k, rfl, ?_, ?_⟩
      · have g := in_gr l.s
        rw [le_gr] at g
        rw [callS (fn := f_is_letter) rfl rfl rfl]
        generalize l.s = h at *
        generalize trM m rows = T at *
        generalize callF gc 64 fs d = cf at *
        simp [f_is_letter, b_is_letter, g, -opC2_inT]
      · have g := in_gr l.s
        rw [le_gr] at g
        have hk : k ≠ 0 := hs
        have e := is_whole (d := d) (m := mem) (i := k) (by omega)
        rw [callS (fn := f_is_power_2) rfl rfl rfl]
        generalize l.s = h at *
        generalize callF gc 64 fs d = cf at *
        simp [f_is_power_2, b_is_power_2, g, e, hk, -opC2_inT]
    | h i w =>
      obtain ⟨hi, hw⟩ := hs
      refine ⟨hL i, w, rfl, is_letter (by omega) hi hl, ?_⟩
      have g := in_gr (hL i)
      rw [not_gr i (by omega)] at g
      have e := is_whole (d := d) (m := mem) (i := w) (by omega)
      have c : opC2 .inn (.int w) (.tup [.int 1, .int (-1)]) = some true := by
        rcases hw with rfl | rfl <;> decide +kernel
      rw [callS (fn := f_is_power_2) rfl rfl rfl]
      generalize hL i = h at *
      generalize callF gc 64 fs d = cf at *
      simp [f_is_power_2, b_is_power_2, g, e, c, -opC2_inT]
  obtain ⟨z, k, q, e2, e3⟩ := key
  have e1 := is_tuple (d := d) (m := mem) (l := [.str z, .int k]) (lo := 2) (hi := 2) (by simp) (by simp) (by omega)
  rw [callS (fn := f_is_syllable) rfl rfl rfl, q]
  generalize trM m rows = T at *
  generalize callF gc 64 fs d = cf at *
  simp [f_is_syllable, b_is_syllable, e1, e2, e3, pM, dM, ot, -kIdx3]
theorem sW_tr (w : List Sy) : trW (sW w) = .tup (w.map fun s => trS s.syl) := by unfold trW sW; rw [List.map_map]; rfl
theorem is_wordS {d m : Nat} {mem : List Ob} {rows : List Row} {w : List Sy} (hd : 5 ≤ d) (hw : ∀ s ∈ w, s.ok rows.length) (hl : rows.length ≤ 80) (hk : w.length ≤ 10000) : callF gc 64 fs d n_is_word [trM m rows, trW (sW w)] mem = some (.bl true, mem) := by
  obtain ⟨d, rfl⟩ : ∃ d', d = d' + 1 := ⟨d - 1, by omega⟩
  have e := fun x1 => comp_each (f := compF (.nm 2) [.val (trM m rows), x1, .none] (kCond gc (callF gc 64 fs d) .nul) (kElt gc (callF gc 64 fs d) e_is_word_0)) (tr := fun s : Sy => trS s.syl) (t2 := fun _ => Tr.bl true) (mem := mem) w (fun s hs => by
    have e1 := is_syl (d := d) (m := m) (mem := mem) (by omega) (hw s hs) hl
    have pM : (trM m rows).pure = true := rfl
    have pS : (trS s.syl).pure = true := rfl
    generalize trS s.syl = S at *
    generalize trM m rows = T at *
    generalize callF gc 64 fs d = cf at *
    simp [compF, asg, e_is_word_0, e1, pM, pS, isNul]) (by omega)
  have q := sW_tr w
  have al := allB w
  have hi : ∀ l : List Tr, items 0 [.tup l] = some l := fun l => rfl
  rw [callS (fn := f_is_word) rfl rfl rfl, q]
  generalize (w.map fun s => trS s.syl) = L at *
  generalize (w.map fun _ => Tr.bl true) = BB at *
  generalize trM m rows = T at *
  generalize callF gc 64 fs d = cf at *
  simp [f_is_word, b_is_word, e, al, hi, wipeE, Slot.lock, -b_all]
theorem le_k (l : G17.Le) : l.s ≠ "k" := by cases l <;> decide +kernel
theorem enum_sy (w : List Sy) (k : Nat) : List.zipWith (fun (i : Nat) x => Tr.tup [.int i, x]) (List.range' k w.length) (w.map fun s => trS s.syl) = ((List.range' k w.length).zip w).map fun q => .tup [.int q.1, trS q.2.syl] := by
  induction w generalizing k with
  | nil => rfl
  | cons r w ih => rw [List.length_cons, List.range'_succ, List.map_cons, List.zipWith_cons_cons, List.zip_cons_cons, List.map_cons, ih]
theorem enumT_sy (w : List Sy) : enumT (w.map fun s => trS s.syl) = ((List.range' 0 w.length).zip w).map fun q => .tup [.int q.1, trS q.2.syl] := by
  unfold enumT
  rw [List.length_map, List.range_eq_range', enum_sy]
theorem plain_loop {cf : CF} {mem : List Ob} {x0 x1 : Slot} {n : Nat} : ∀ (w : List Sy) (k : Nat) (s2 s3 : Slot), (∀ s ∈ w, s.ok n) → n ≤ 80 → ∃ t2 t3, forGo (.tp [.nm 2, .nm 3]) (exSs gc cf 64 l_check_plain_word_0) (((List.range' k w.length).zip w).map fun q => .tup [.int q.1, trS q.2.syl]) ⟨[x0, x1, s2, s3], mem⟩ = .ok .next ⟨[x0, x1, t2, t3], mem⟩
  | [], k, s2, s3, _, _ => ⟨s2, s3, by simp [forGo]⟩
  | s :: w, k, s2, s3, h, hn => by
    obtain ⟨t2, t3, ht⟩ := plain_loop (cf := cf) (mem := mem) (x0 := x0) (x1 := x1) w (k + 1) (.val (.int k)) (.val (trS s.syl)) (fun x hx => h x (List.mem_cons_of_mem _ hx)) hn
    refine ⟨t2, t3, ?_⟩
    have ps : (trS s.syl).pure = true := rfl
    have ha : asg (.tp [.nm 2, .nm 3]) (.tup [.int k, trS s.syl]) [x0, x1, s2, s3] = some [x0, x1, .val (.int k), .val (trS s.syl)] := by simp [asg, asgs, ps]
    have c : opC2 .eq (.str s.syl.1) (.str "k") = some false := cN (by
      have hs := h s (List.mem_cons_self ..)
      cases s with
      | g l k => exact le_k l
      | h i v => exact ne_k i (by have := hs.1; omega))
    have ot : ∀ (l : List Tr) (y : Tr) (s2 : Sta), kIdx3 y s2 (.tup l) = Rs.of (idxT (.tup l) (s2.deref y)) s2 := fun l y s2 => rfl
    have step : exSs gc cf 64 l_check_plain_word_0 ⟨[x0, x1, .val (.int k), .val (trS s.syl)], mem⟩ = .ok .next ⟨[x0, x1, .val (.int k), .val (trS s.syl)], mem⟩ := by
      have q : trS s.syl = .tup [.str s.syl.1, .int s.syl.2] := rfl
      rw [q]
      generalize s.syl.1 = z at *
      simp [l_check_plain_word_0, c, ot, -kIdx3, -opC2_eqS]
    rw [List.length_cons, List.range'_succ, List.zip_cons_cons, List.map_cons, forGo_cons ha step, ht]
theorem check_plain {d m : Nat} {mem : List Ob} {rows : List Row} {w : List Sy} (hd : 7 ≤ d) (hw : ∀ s ∈ w, s.ok rows.length) (hl : rows.length ≤ 80) (hk : w.length ≤ 10000) : callF gc 64 fs d n_check_plain_word [trM m rows, trW (sW w)] mem = some (.non, mem) := by
  obtain ⟨d, rfl⟩ : ∃ d', d = d' + 2 := ⟨d - 2, by omega⟩
  have e0 := is_wordS (d := d) (m := m) (mem := mem) (by omega) hw hl hk
  have pM : (trM m rows).pure = true := rfl
  have pW : (trW (sW w)).pure = true := rfl
  have lW : ∀ s : Sta, s.deref (trW (sW w)) = trW (sW w) := fun s => rfl
  have e1 : callF gc 64 fs (d + 1) n_check_word [trM m rows, trW (sW w)] mem = some (.non, mem) := by
    rw [callS (fn := f_check_word) rfl rfl rfl]
    generalize trM m rows = T at *
    generalize trW (sW w) = WT at *
    generalize callF gc 64 fs d = cf at *
    simp [f_check_word, b_check_word, e0, pM, pW]
  obtain ⟨t2, t3, e2⟩ := plain_loop (cf := callF gc 64 fs (d + 1)) (mem := mem) (x0 := .val (trM m rows)) (x1 := .val (trW (sW w))) w 0 .none .none hw hl
  rw [← enumT_sy] at e2
  have hi : items 3 [trW (sW w)] = some (enumT (w.map fun s => trS s.syl)) := by rw [sW_tr]; rfl
  rw [callS (fn := f_check_plain_word) rfl rfl rfl]
  generalize enumT (w.map fun s => trS s.syl) = EN at *
  generalize trM m rows = T at *
  generalize trW (sW w) = WT at *
  simp [f_check_plain_word, b_check_plain_word, e1, e2, hi, pM, pW, lW]
end G
/-! Forms put together. -/
namespace G
open Ev PySem L2 G17
abbrev It := G17.It
abbrev Fo := G17.Fo
def tF (f : G17.Fo) : Tr := G17.trF f
theorem tI_eq (e : It) : G17.trP e = .tup [.tup [.int e.1.1, .int e.1.2], .int e.2] := rfl
theorem nil_I (s : List It) : eqT (.lst (s.reverse.map G17.trP)) (.lst []) = some s.isEmpty := by rw [nilP]; simp
theorem last_I {e : It} {s : List It} : ((e :: s).reverse.map G17.trP).getLast? = some (.tup [.tup [.int e.1.1, .int e.1.2], .int e.2]) := by
  rw [List.getLast?_map, List.getLast?_reverse]
  rfl
theorem drop_I {e : It} {s : List It} : ((e :: s).reverse.map G17.trP).dropLast = s.reverse.map G17.trP := by
  rw [← List.map_dropLast, List.reverse_cons, List.dropLast_concat]
theorem push_len (p : Int × Int) (k : Int) (s : List It) : (push p k s).length ≤ s.length + 1 := by
  cases s with
  | nil => rw [push_nil]; split <;> simp
  | cons e r =>
    rw [push_cons]
    split
    · split <;> (simp only [List.length_cons]; omega)
    · split <;> (simp only [List.length_cons]; omega)
theorem put_step {cf : CF} {mem : List Ob} {x0 : Slot} {s : List It} {p : Int × Int} {k : Int} (hl : s.length ≤ 100000) (hr : Red s) : ∃ q : Int,
    exSs gc cf 64 l_put_together_0 ⟨[x0, .own (.lst (s.reverse.map G17.trP)), .val (.tup [.int p.1, .int p.2]), .val (.int k)], mem⟩ = .ok .next ⟨[x0, .own (.lst ((push p k s).reverse.map G17.trP)), .val (.tup [.int p.1, .int p.2]), .val (.int q)], mem⟩ := by
  have ol : ∀ (l : List Tr) (y : Tr) (s2 : Sta), kIdx3 y s2 (.lst l) = Rs.of (idxT (.lst l) (s2.deref y)) s2 := fun l y s2 => rfl
  have ot : ∀ (l : List Tr) (y : Tr) (s2 : Sta), kIdx3 y s2 (.tup l) = Rs.of (idxT (.tup l) (s2.deref y)) s2 := fun l y s2 => rfl
  have n1 := nil_I s
  have len : (s.reverse.map G17.trP).length = s.length := by simp
  have lt : s.length < 16777216 := by omega
  have lt3 : s.length - 1 < 16777216 := by omega
  cases s with
  | nil =>
    refine ⟨k, ?_⟩
    rw [push_nil]
    by_cases hk : k = 0
    · simp [l_put_together_0, hk, d_own, eqD_nil (n := 2) (l := []) rfl (by omega)]
    · simp [l_put_together_0, hk, d_own, eqD_nil (n := 2) (l := []) rfl (by omega), G17.trP]
  | cons e r =>
    have m1 := @last_I e r
    have m2 := @drop_I e r
    have ce := eqT_pair e.1.1 e.1.2 p.1 p.2
    have c2 : opC2 .eq (.tup [.int e.1.1, .int e.1.2]) (.tup [.int p.1, .int p.2]) = some (decide (e.1 = p)) := by rw [opC2_eqT, ce]
    have he0 := hr.1
    rw [push_cons]
    simp only [List.isEmpty_cons] at n1
    by_cases h : e.1 = p
    · rw [if_pos h]
      rw [decide_eq_true h] at c2
      have ep : ((p, k + e.2) :: r).reverse.map G17.trP = ((e :: r).reverse.map G17.trP).dropLast ++ [.tup [.tup [.int p.1, .int p.2], .int (k + e.2)]] := by rw [m2, List.reverse_cons, List.map_append]; rfl
      refine ⟨k + e.2, ?_⟩
      by_cases hz : k + e.2 = 0
      · rw [if_pos hz, ← m2]
        generalize (e :: r).reverse.map G17.trP = F at *
        simp [l_put_together_0, d_own, n1, m1, c2, ol, ot, hz, -kIdx3, -opC2_eqT]
      · rw [if_neg hz, ep]
        have l2 : ((e :: r).reverse.map G17.trP).dropLast.length = r.length := by rw [m2]; simp
        have lt4 : r.length < 16777216 := by simp at hl; omega
        generalize (e :: r).reverse.map G17.trP = F at *
        rw [List.length_dropLast] at l2
        simp [l_put_together_0, d_own, n1, m1, c2, ol, ot, hz, l2, lt4, -kIdx3, -opC2_eqT]
    · rw [if_neg h]
      rw [decide_eq_false h] at c2
      have ep : G17.trP (p, k) = .tup [.tup [.int p.1, .int p.2], .int k] := rfl
      refine ⟨k, ?_⟩
      by_cases hk : k = 0
      · rw [if_pos hk]
        generalize (e :: r).reverse.map G17.trP = F at *
        simp [l_put_together_0, d_own, n1, m1, c2, ol, ot, hk, -kIdx3, -opC2_eqT]
      · have q : ((p, k) :: e :: r).reverse.map G17.trP = (e :: r).reverse.map G17.trP ++ [.tup [.tup [.int p.1, .int p.2], .int k]] := by rw [List.reverse_cons, List.map_append]; rfl
        rw [if_neg hk, q]
        generalize (e :: r).reverse.map G17.trP = F at *
        simp [l_put_together_0, d_own, n1, m1, c2, ol, ot, hk, len, lt, -kIdx3, -opC2_eqT]
        rw [if_pos (by simp at hl; omega)]
        simp
theorem same_step {cf : CF} {mem : List Ob} {x0 : Slot} {s : List It} {p : Int × Int} {k : Int} (hl : s.length ≤ 100000) (hr : Red s) : ∃ q : Int,
    exSs gc cf 64 l_law_same_moved_0 ⟨[x0, .own (.lst (s.reverse.map G17.trP)), .val (.tup [.int p.1, .int p.2]), .val (.int k)], mem⟩ = .ok .next ⟨[x0, .own (.lst ((push p k s).reverse.map G17.trP)), .val (.tup [.int p.1, .int p.2]), .val (.int q)], mem⟩ := by
  have ol : ∀ (l : List Tr) (y : Tr) (s2 : Sta), kIdx3 y s2 (.lst l) = Rs.of (idxT (.lst l) (s2.deref y)) s2 := fun l y s2 => rfl
  have ot : ∀ (l : List Tr) (y : Tr) (s2 : Sta), kIdx3 y s2 (.tup l) = Rs.of (idxT (.tup l) (s2.deref y)) s2 := fun l y s2 => rfl
  have n1 := nil_I s
  have len : (s.reverse.map G17.trP).length = s.length := by simp
  have lt : s.length < 16777216 := by omega
  cases s with
  | nil =>
    refine ⟨k, ?_⟩
    rw [push_nil]
    by_cases hk : k = 0
    · simp [l_law_same_moved_0, hk, d_own, eqD_nil (n := 2) (l := []) rfl (by omega)]
    · simp [l_law_same_moved_0, hk, d_own, eqD_nil (n := 2) (l := []) rfl (by omega), G17.trP]
  | cons e r =>
    have m1 := @last_I e r
    have m2 := @drop_I e r
    have ce := eqT_pair e.1.1 e.1.2 p.1 p.2
    have c2 : opC2 .eq (.tup [.int e.1.1, .int e.1.2]) (.tup [.int p.1, .int p.2]) = some (decide (e.1 = p)) := by rw [opC2_eqT, ce]
    rw [push_cons]
    simp only [List.isEmpty_cons] at n1
    by_cases h : e.1 = p
    · rw [if_pos h]
      rw [decide_eq_true h] at c2
      have ep : ((p, k + e.2) :: r).reverse.map G17.trP = ((e :: r).reverse.map G17.trP).dropLast ++ [.tup [.tup [.int p.1, .int p.2], .int (k + e.2)]] := by rw [m2, List.reverse_cons, List.map_append]; rfl
      refine ⟨k + e.2, ?_⟩
      by_cases hz : k + e.2 = 0
      · rw [if_pos hz, ← m2]
        generalize (e :: r).reverse.map G17.trP = F at *
        simp [l_law_same_moved_0, d_own, n1, m1, c2, ol, ot, hz, -kIdx3, -opC2_eqT]
      · rw [if_neg hz, ep]
        have l2 : ((e :: r).reverse.map G17.trP).dropLast.length = r.length := by rw [m2]; simp
        have lt4 : r.length < 16777216 := by simp at hl; omega
        generalize (e :: r).reverse.map G17.trP = F at *
        rw [List.length_dropLast] at l2
        simp [l_law_same_moved_0, d_own, n1, m1, c2, ol, ot, hz, l2, lt4, -kIdx3, -opC2_eqT]
    · rw [if_neg h]
      rw [decide_eq_false h] at c2
      refine ⟨k, ?_⟩
      by_cases hk : k = 0
      · rw [if_pos hk]
        generalize (e :: r).reverse.map G17.trP = F at *
        simp [l_law_same_moved_0, d_own, n1, m1, c2, ol, ot, hk, -kIdx3, -opC2_eqT]
      · have q : ((p, k) :: e :: r).reverse.map G17.trP = (e :: r).reverse.map G17.trP ++ [.tup [.tup [.int p.1, .int p.2], .int k]] := by rw [List.reverse_cons, List.map_append]; rfl
        rw [if_neg hk, q]
        generalize (e :: r).reverse.map G17.trP = F at *
        simp [l_law_same_moved_0, d_own, n1, m1, c2, ol, ot, hk, len, lt, -kIdx3, -opC2_eqT]
        rw [if_pos (by simp at hl; omega)]
        simp
theorem pushL_cons (s : List It) (e : It) (ts : List It) : pushL s (e :: ts) = pushL (push e.1 e.2 s) ts := rfl
theorem put_loop {cf : CF} {mem : List Ob} {x0 : Slot} : ∀ (ts s : List It) (s2 s3 : Slot), s.length + ts.length ≤ 100000 → Red s → ∃ t2 t3, forGo (.tp [.nm 2, .nm 3]) (exSs gc cf 64 l_put_together_0) (ts.map G17.trP) ⟨[x0, .own (.lst (s.reverse.map G17.trP)), s2, s3], mem⟩ = .ok .next ⟨[x0, .own (.lst ((pushL s ts).reverse.map G17.trP)), t2, t3], mem⟩
  | [], s, s2, s3, _, _ => ⟨s2, s3, by simp [forGo, pushL]⟩
  | e :: ts, s, s2, s3, hl, hr => by
    rw [List.length_cons] at hl
    have := push_len e.1 e.2 s
    obtain ⟨q, h⟩ := put_step (cf := cf) (mem := mem) (x0 := x0) (s := s) (p := e.1) (k := e.2) (by omega) hr
    obtain ⟨t2, t3, ht⟩ := put_loop (cf := cf) (mem := mem) (x0 := x0) ts (push e.1 e.2 s) (.val (.tup [.int e.1.1, .int e.1.2])) (.val (.int q)) (by omega) (push_red hr)
    refine ⟨t2, t3, ?_⟩
    have ha : asg (.tp [.nm 2, .nm 3]) (G17.trP e) [x0, .own (.lst (s.reverse.map G17.trP)), s2, s3] = some [x0, .own (.lst (s.reverse.map G17.trP)), .val (.tup [.int e.1.1, .int e.1.2]), .val (.int e.2)] := by simp [G17.trP, asg, asgs]
    rw [List.map_cons, forGo_cons ha h, ht, pushL_cons]
theorem same_loop {cf : CF} {mem : List Ob} {x0 : Slot} : ∀ (ts s : List It) (s2 s3 : Slot), s.length + ts.length ≤ 100000 → Red s → ∃ t2 t3, forGo (.tp [.nm 2, .nm 3]) (exSs gc cf 64 l_law_same_moved_0) (ts.map G17.trP) ⟨[x0, .own (.lst (s.reverse.map G17.trP)), s2, s3], mem⟩ = .ok .next ⟨[x0, .own (.lst ((pushL s ts).reverse.map G17.trP)), t2, t3], mem⟩
  | [], s, s2, s3, _, _ => ⟨s2, s3, by simp [forGo, pushL]⟩
  | e :: ts, s, s2, s3, hl, hr => by
    rw [List.length_cons] at hl
    have := push_len e.1 e.2 s
    obtain ⟨q, h⟩ := same_step (cf := cf) (mem := mem) (x0 := x0) (s := s) (p := e.1) (k := e.2) (by omega) hr
    obtain ⟨t2, t3, ht⟩ := same_loop (cf := cf) (mem := mem) (x0 := x0) ts (push e.1 e.2 s) (.val (.tup [.int e.1.1, .int e.1.2])) (.val (.int q)) (by omega) (push_red hr)
    refine ⟨t2, t3, ?_⟩
    have ha : asg (.tp [.nm 2, .nm 3]) (G17.trP e) [x0, .own (.lst (s.reverse.map G17.trP)), s2, s3] = some [x0, .own (.lst (s.reverse.map G17.trP)), .val (.tup [.int e.1.1, .int e.1.2]), .val (.int e.2)] := by simp [G17.trP, asg, asgs]
    rw [List.map_cons, forGo_cons ha h, ht, pushL_cons]
/-- what is handed in, as a list or a tuple -/
theorem put_together {d : Nat} {mem : List Ob} {ts : List It} (hd : 1 ≤ d) (hl : ts.length ≤ 100000) : callF gc 64 fs d n_put_together [.lst (ts.map G17.trP)] mem = some (.tup ((pushL [] ts).reverse.map G17.trP), mem) := by
  obtain ⟨d, rfl⟩ : ∃ d', d = d' + 1 := ⟨d - 1, by omega⟩
  obtain ⟨t2, t3, e⟩ := put_loop (cf := callF gc 64 fs d) (mem := mem) (x0 := .val (.lst (ts.map G17.trP))) ts [] .none .none (by simpa using hl) trivial
  rw [List.reverse_nil, List.map_nil] at e
  have hi : ∀ l : List Tr, items 0 [.lst l] = some l := fun l => rfl
  rw [callS (fn := f_put_together) rfl rfl rfl]
  generalize (pushL [] ts).reverse.map G17.trP = R at *
  generalize ts.map G17.trP = W at *
  simp [f_put_together, b_put_together, hi, e, d_own]
theorem same_moved {d : Nat} {mem : List Ob} {ts : List It} (hd : 1 ≤ d) (hl : ts.length ≤ 100000) : callF gc 64 fs d n_law_same_moved [.lst (ts.map G17.trP)] mem = some (.tup ((pushL [] ts).reverse.map G17.trP), mem) := by
  obtain ⟨d, rfl⟩ : ∃ d', d = d' + 1 := ⟨d - 1, by omega⟩
  obtain ⟨t2, t3, e⟩ := same_loop (cf := callF gc 64 fs d) (mem := mem) (x0 := .val (.lst (ts.map G17.trP))) ts [] .none .none (by simpa using hl) trivial
  rw [List.reverse_nil, List.map_nil] at e
  have hi : ∀ l : List Tr, items 0 [.lst l] = some l := fun l => rfl
  rw [callS (fn := f_law_same_moved) rfl rfl rfl]
  generalize (pushL [] ts).reverse.map G17.trP = R at *
  generalize ts.map G17.trP = W at *
  simp [f_law_same_moved, b_law_same_moved, hi, e, d_own]
end G
/-! Forms: one behind the other; of one syllable; undone. -/
namespace G
open Ev PySem L2 G17
def mul (f g : Fo) : Fo := (cat f.1 (shf f.2.1 f.2.2 g.1), f.2.1 + g.2.1, f.2.2 + g.2.2)
def E0 : Fo := ([], 0, 0)
theorem tF_eq (f : Fo) : tF f = .tup [.tup (f.1.reverse.map G17.trP), .int f.2.1, .int f.2.2] := rfl
theorem pushL_app (s : List It) (a b : List It) : pushL s (a ++ b) = pushL (pushL s a) b := List.foldl_append ..
theorem shf_rev (a b : Int) (r : List It) : (shf a b r).reverse.map G17.trP = r.reverse.map fun e => G17.trP ((e.1.1 - a, e.1.2 - b), e.2) := by
  unfold shf
  rw [← List.map_reverse, List.map_map]
  rfl
theorem times_key {f g : Fo} (hf : Red f.1) : pushL [] (f.1.reverse ++ (shf f.2.1 f.2.2 g.1).reverse) = (mul f g).1 := by
  rw [pushL_app]
  have : pushL [] f.1.reverse = f.1 := cat_self hf
  rw [this]
  rfl
theorem times_of {d : Nat} {mem : List Ob} {f g : Fo} (hd : 2 ≤ d) (hf : Red f.1) (l1 : f.1.length ≤ 40000) (l2 : g.1.length ≤ 40000) : callF gc 64 fs d n_times_of [tF f, tF g] mem = some (tF (mul f g), mem) := by
  obtain ⟨d, rfl⟩ : ∃ d', d = d' + 1 := ⟨d - 1, by omega⟩
  have e := fun x0 x1 x2 x5 => comp_each (f := compF (.tp [.nm 6, .nm 7]) [x0, x1, x2, .val (.int f.2.1), .val (.int f.2.2), x5, .none, .none] (kCond gc (callF gc 64 fs d) .nul) (kElt gc (callF gc 64 fs d) e_times_of_0)) (tr := G17.trP) (t2 := fun e : It => G17.trP ((e.1.1 - f.2.1, e.1.2 - f.2.2), e.2)) (mem := mem) g.1.reverse (fun z _ => by
    have ot : ∀ (l : List Tr) (y : Tr) (s2 : Sta), kIdx3 y s2 (.tup l) = Rs.of (idxT (.tup l) (s2.deref y)) s2 := fun l y s2 => rfl
    simp [compF, asg, asgs, G17.trP, e_times_of_0, isNul, ot, -kIdx3]) (by simp; omega)
  have p := put_together (d := d) (mem := mem) (ts := f.1.reverse ++ (shf f.2.1 f.2.2 g.1).reverse) (by omega) (by simp [shf]; omega)
  rw [times_key hf, List.map_append, shf_rev] at p
  have hi : ∀ l : List Tr, items 0 [.tup l] = some l := fun l => rfl
  have ot : ∀ (l : List Tr) (y : Tr) (s2 : Sta), kIdx3 y s2 (.tup l) = Rs.of (idxT (.tup l) (s2.deref y)) s2 := fun l y s2 => rfl
  have k1 : (f.1.reverse.map G17.trP).length ≤ 40000 := by simp; exact l1
  have k2 : (g.1.reverse.map fun e : It => G17.trP ((e.1.1 - f.2.1, e.1.2 - f.2.2), e.2)).length ≤ 40000 := by simp; exact l2
  have kk : (f.1.reverse.map G17.trP).length + (g.1.reverse.map fun e : It => G17.trP ((e.1.1 - f.2.1, e.1.2 - f.2.2), e.2)).length ≤ 16777216 := by omega
  have pA : ∀ t ∈ f.1.reverse.map G17.trP, t.pure = true := by
    intro t ht
    obtain ⟨x, _, rfl⟩ := List.mem_map.mp ht
    rfl
  have pB : ∀ t ∈ g.1.reverse.map (fun e : It => G17.trP ((e.1.1 - f.2.1, e.1.2 - f.2.2), e.2)), t.pure = true := by
    intro t ht
    obtain ⟨x, _, rfl⟩ := List.mem_map.mp ht
    rfl
  have m1 : (mul f g).2.1 = f.2.1 + g.2.1 := rfl
  have m2 : (mul f g).2.2 = f.2.2 + g.2.2 := rfl
  rw [callS (fn := f_times_of) rfl rfl rfl, tF_eq f, tF_eq g, tF_eq (mul f g), m1, m2]
  generalize (mul f g).1.reverse.map G17.trP = R at *
  generalize (g.1.reverse.map fun e : It => G17.trP ((e.1.1 - f.2.1, e.1.2 - f.2.2), e.2)) = S at *
  generalize g.1.reverse.map G17.trP = G0 at *
  generalize f.1.reverse.map G17.trP = F0 at *
  generalize callF gc 64 fs d = cf at *
  simp [f_times_of, b_times_of, hi, ot, e, p, kk, wipeE, Slot.lock, asg, asgs, -kIdx3]
  rw [if_pos ⟨pA, pB⟩]
  simp [p, ot, -kIdx3]
theorem law_times {d : Nat} {mem : List Ob} {f g : Fo} (hd : 2 ≤ d) (hf : Red f.1) (l1 : f.1.length ≤ 40000) (l2 : g.1.length ≤ 40000) : callF gc 64 fs d n_law_form_times [tF f, tF g] mem = some (tF (mul f g), mem) := by
  obtain ⟨d, rfl⟩ : ∃ d', d = d' + 1 := ⟨d - 1, by omega⟩
  have e := fun x1 x2 => comp_each (f := compF (.tp [.nm 3, .nm 4]) [.val (tF f), x1, x2, .none, .none] (kCond gc (callF gc 64 fs d) .nul) (kElt gc (callF gc 64 fs d) e_law_form_times_0)) (tr := G17.trP) (t2 := fun e : It => G17.trP ((e.1.1 - f.2.1, e.1.2 - f.2.2), e.2)) (mem := mem) g.1.reverse (fun z _ => by
    have ot : ∀ (l : List Tr) (y : Tr) (s2 : Sta), kIdx3 y s2 (.tup l) = Rs.of (idxT (.tup l) (s2.deref y)) s2 := fun l y s2 => rfl
    rw [tF_eq]
    generalize f.1.reverse.map G17.trP = F0 at *
    simp [compF, asg, asgs, G17.trP, e_law_form_times_0, isNul, ot, -kIdx3]) (by simp; omega)
  have p := same_moved (d := d) (mem := mem) (ts := f.1.reverse ++ (shf f.2.1 f.2.2 g.1).reverse) (by omega) (by simp [shf]; omega)
  rw [times_key hf, List.map_append, shf_rev] at p
  have hi : ∀ l : List Tr, items 0 [.tup l] = some l := fun l => rfl
  have ot : ∀ (l : List Tr) (y : Tr) (s2 : Sta), kIdx3 y s2 (.tup l) = Rs.of (idxT (.tup l) (s2.deref y)) s2 := fun l y s2 => rfl
  have k1 : (f.1.reverse.map G17.trP).length ≤ 40000 := by simp; exact l1
  have k2 : (g.1.reverse.map fun e : It => G17.trP ((e.1.1 - f.2.1, e.1.2 - f.2.2), e.2)).length ≤ 40000 := by simp; exact l2
  have ad : opB .add (.lst (f.1.reverse.map G17.trP)) (.lst (g.1.reverse.map fun e : It => G17.trP ((e.1.1 - f.2.1, e.1.2 - f.2.2), e.2))) = some (.lst (f.1.reverse.map G17.trP ++ g.1.reverse.map fun e : It => G17.trP ((e.1.1 - f.2.1, e.1.2 - f.2.2), e.2))) := opB_addL (by rw [Ev.sizeLine_eq]; omega)
  have m1 : (mul f g).2.1 = f.2.1 + g.2.1 := rfl
  have m2 : (mul f g).2.2 = f.2.2 + g.2.2 := rfl
  rw [tF_eq f] at e
  rw [callS (fn := f_law_form_times) rfl rfl rfl, tF_eq f, tF_eq g, tF_eq (mul f g), m1, m2]
  generalize (mul f g).1.reverse.map G17.trP = R at *
  generalize (g.1.reverse.map fun e : It => G17.trP ((e.1.1 - f.2.1, e.1.2 - f.2.2), e.2)) = S at *
  generalize g.1.reverse.map G17.trP = G0 at *
  generalize f.1.reverse.map G17.trP = F0 at *
  generalize callF gc 64 fs d = cf at *
  simp [f_law_form_times, b_law_form_times, hi, ot, e, p, ad, wipeE, Slot.lock, -kIdx3]
theorem mul_one {f : Fo} (l : Le) (k : Int) (hf : Red f.1) : mul f (step E0 (l, k)) = step f (l, k) := by
  have h := run_cat hf f.2.1 f.2.2 [(l, k)]
  exact h.symm
theorem form_one {d : Nat} {mem : List Ob} {l : Le} {k : Int} (hd : 2 ≤ d) : callF gc 64 fs d n_form_of [.tup [.tup [.str l.s, .int k]]] mem = some (tF (step E0 (l, k)), mem) := by
  obtain ⟨d, rfl⟩ : ∃ d', d = d' + 1 := ⟨d - 1, by omega⟩
  have hi : ∀ l : List Tr, items 0 [.tup l] = some l := fun l => rfl
  rw [callS (fn := f_form_of) rfl rfl rfl]
  cases l with
  | x =>
    have p := put_together (d := d) (mem := mem) (ts := []) (by omega) (by simp)
    have c1 : opC2 .eq (.str Le.x.s) (.str "x") = some true := cS rfl
    have q : tF (step E0 (.x, k)) = .tup [.tup [], .int (0 + k), .int 0] := rfl
    have p' : callF gc 64 fs d n_put_together [.lst []] mem = some (.tup [], mem) := p
    rw [q]
    clear p
    generalize Le.s .x = z at *
    generalize callF gc 64 fs d = cf at *
    simp [f_form_of, b_form_of, l_form_of_0, hi, c1, p', forGo, manyGo, ownOb, asg, asgs, -opC2_eqS]
  | y =>
    have p := put_together (d := d) (mem := mem) (ts := []) (by omega) (by simp)
    have c1 : opC2 .eq (.str Le.y.s) (.str "x") = some false := cN (by decide +kernel)
    have c2 : opC2 .eq (.str Le.y.s) (.str "y") = some true := cS rfl
    have q : tF (step E0 (.y, k)) = .tup [.tup [], .int 0, .int (0 + k)] := rfl
    have p' : callF gc 64 fs d n_put_together [.lst []] mem = some (.tup [], mem) := p
    rw [q]
    clear p
    generalize Le.s .y = z at *
    generalize callF gc 64 fs d = cf at *
    simp [f_form_of, b_form_of, l_form_of_0, hi, c1, c2, p', forGo, manyGo, ownOb, asg, asgs, -opC2_eqS]
  | t =>
    have p := put_together (d := d) (mem := mem) (ts := [((-0, -0), k)]) (by omega) (by simp)
    have c1 : opC2 .eq (.str Le.t.s) (.str "x") = some false := cN (by decide +kernel)
    have c2 : opC2 .eq (.str Le.t.s) (.str "y") = some false := cN (by decide +kernel)
    have q : tF (step E0 (.t, k)) = .tup [.tup ((pushL [] [((-0, -0), k)]).reverse.map G17.trP), .int 0, .int 0] := rfl
    have p' : callF gc 64 fs d n_put_together [.lst [.tup [.tup [.int (-0), .int (-0)], .int k]]] mem = some (.tup ((pushL [] [((-0, -0), k)]).reverse.map G17.trP), mem) := p
    rw [q]
    clear p
    generalize (pushL [] [((-0, -0), k)]).reverse.map G17.trP = R at *
    generalize Le.s .t = z at *
    generalize callF gc 64 fs d = cf at *
    simp [f_form_of, b_form_of, l_form_of_0, hi, c1, c2, forGo, manyGo, ownOb, asg, asgs, -opC2_eqS] at p' ⊢
    simp [p']
end G
/-! What a hand passes: the program's. -/
namespace G
open Ev PySem L2 G17
def itOk (m a b fg : Nat) (w : Int) (e : It) : Bool := if w = 1 then decide (e.1.1 % (m : Int) = a ∧ e.1.2 % (m : Int) = b) else decide ((e.1.1 - fg) % ((m : Int) * m) = 0)
def okR (m a b fg : Nat) (w : Int) (f : Fo) : Bool := (if w = 1 then decide (f.2.1 % (m : Int) = 0 ∧ f.2.2 % (m : Int) = 0) else decide (f.2.1 % ((m : Int) * m) = 0)) && f.1.all (itOk m a b fg w)
def itCar (m a b fg : Nat) (w : Int) (e : It) : It := if w = 1 then ((e.1.1 / (m : Int) * ((m : Int) * m) + fg, e.1.2 / (m : Int)), e.2) else (((e.1.1 - fg) / ((m : Int) * m) * m + a, e.1.2 * m + b), e.2)
def carR (m a b fg : Nat) (w : Int) (f : Fo) : Fo := (f.1.map (itCar m a b fg w), if w = 1 then (f.2.1 * m, f.2.2 / (m : Int)) else (f.2.1 / (m : Int), f.2.2 * m))
def passR (m a b fg : Nat) (w : Int) (f : Fo) : Option Fo := if okR m a b fg w f then some (carR m a b fg w f) else none
def turned (f : Fo) : Fo := (f.1.map fun e => ((e.1.2, e.1.1), e.2), f.2.2, f.2.1)
def passF (m : Nat) (rows : List Row) (i : Nat) (f : Fo) (w : Int) : Option Fo := match rows[i]? with
  | some r => if r.s then passR m r.a r.b r.f w f else (passR m r.b r.a r.f w (turned f)).map turned
  | none => none
def FB (B : Nat) (f : Fo) : Prop := (∀ e ∈ f.1, e.1.1.natAbs < 2 ^ B ∧ e.1.2.natAbs < 2 ^ B) ∧ f.2.1.natAbs < 2 ^ B ∧ f.2.2.natAbs < 2 ^ B
theorem FB.mono {B C : Nat} {f : Fo} (h : FB B f) (hc : B ≤ C) : FB C f := by
  have p := Nat.pow_le_pow_right (show 0 < 2 by omega) hc
  exact ⟨fun e he => by have := h.1 e he; omega, by have := h.2.1; omega, by have := h.2.2; omega⟩
theorem FB.turned {B : Nat} {f : Fo} (h : FB B f) : FB B (turned f) := by
  refine ⟨fun e he => ?_, h.2.2, h.2.1⟩
  obtain ⟨x, hx, rfl⟩ := List.mem_map.mp he
  exact ⟨(h.1 x hx).2, (h.1 x hx).1⟩
inductive Lk where
  | no
  | num (z : Str) (v : Int)
  | pair (p : Int × Int)
def Lk.tr : Lk → Tr
  | .no => .non
  | .num z v => .tup [.str z, .int v]
  | .pair p => .tup [.str "t", .tup [.int p.1, .int p.2]]
def Lk.is : Lk → Bool
  | .no => true
  | _ => false
theorem Lk.pure (l : Lk) : l.tr.pure = true := by cases l <;> rfl
theorem lack_loop {cf : CF} {m a b fg : Nat} {mem : List Ob} {x1 x2 x7 x8 x9 x10 : Slot} {w : Int} (h0 : 0 < m) (h9 : m ≤ 9) (hw : w = 1 ∨ w = -1) : ∀ (ts : List It) (s12 s13 : Slot), ∃ f t12 t13,
    forGo (.tp [.nm 12, .nm 13]) (exSs gc cf 64 l_lacking_0) (ts.map G17.trP) ⟨[.val (.int m), x1, x2, .val (.int w), .val (.int a), .val (.int b), .val (.int fg), x7, x8, x9, x10, .val (.int ((m : Int) * m)), s12, s13], mem⟩ =
      .ok f ⟨[.val (.int m), x1, x2, .val (.int w), .val (.int a), .val (.int b), .val (.int fg), x7, x8, x9, x10, .val (.int ((m : Int) * m)), t12, t13], mem⟩ ∧ (if ts.all (itOk m a b fg w) then f = .next else ∃ p, f = .ret (Lk.pair p).tr)
  | [], s12, s13 => ⟨.next, s12, s13, by simp [forGo], by simp⟩
  | e :: ts, s12, s13 => by
    have ot : ∀ (l : List Tr) (y : Tr) (s2 : Sta), kIdx3 y s2 (.tup l) = Rs.of (idxT (.tup l) (s2.deref y)) s2 := fun l y s2 => rfl
    have d1 : ∀ i : Int, opB .mod (.int i) (.int m) = some (.int (i % m)) := fun i => opB_mod (by omega)
    have mp : 0 < (m : Int) * m := Int.mul_pos (by omega) (by omega)
    have d2 : ∀ i : Int, opB .mod (.int i) (.int ((m : Int) * m)) = some (.int (i % ((m : Int) * m))) := fun i => opB_mod mp
    have ha : asg (.tp [.nm 12, .nm 13]) (G17.trP e) [.val (.int m), x1, x2, .val (.int w), .val (.int a), .val (.int b), .val (.int fg), x7, x8, x9, x10, .val (.int ((m : Int) * m)), s12, s13] = some [.val (.int m), x1, x2, .val (.int w), .val (.int a), .val (.int b), .val (.int fg), x7, x8, x9, x10, .val (.int ((m : Int) * m)), .val (.tup [.int e.1.1, .int e.1.2]), .val (.int e.2)] := by simp [asg, asgs, G17.trP]
    rw [List.map_cons, List.all_cons]
    by_cases h : itOk m a b fg w e = true
    · obtain ⟨f, t12, t13, ht, hf⟩ := lack_loop (cf := cf) (a := a) (b := b) (fg := fg) (mem := mem) (x1 := x1) (x2 := x2) (x7 := x7) (x8 := x8) (x9 := x9) (x10 := x10) h0 h9 hw ts (.val (.tup [.int e.1.1, .int e.1.2])) (.val (.int e.2))
      refine ⟨f, t12, t13, ?_, by rw [h, Bool.true_and]; exact hf⟩
      have step : exSs gc cf 64 l_lacking_0 ⟨[.val (.int m), x1, x2, .val (.int w), .val (.int a), .val (.int b), .val (.int fg), x7, x8, x9, x10, .val (.int ((m : Int) * m)), .val (.tup [.int e.1.1, .int e.1.2]), .val (.int e.2)], mem⟩ = .ok .next ⟨[.val (.int m), x1, x2, .val (.int w), .val (.int a), .val (.int b), .val (.int fg), x7, x8, x9, x10, .val (.int ((m : Int) * m)), .val (.tup [.int e.1.1, .int e.1.2]), .val (.int e.2)], mem⟩ := by
        clear ht ha
        rcases hw with rfl | rfl
        · have c := eqT_pair (e.1.1 % m) (e.1.2 % m) a b
          have h' : (e.1.1 % (m : Int), e.1.2 % (m : Int)) = ((a : Int), (b : Int)) := by
            unfold itOk at h
            rw [if_pos rfl] at h
            simp only [decide_eq_true_eq] at h
            rw [h.1, h.2]
          rw [decide_eq_true h'] at c
          have c2 : opC2 .ne (.tup [.int (e.1.1 % m), .int (e.1.2 % m)]) (.tup [.int a, .int b]) = some false := by rw [opC2_neT, c]; rfl
          simp [l_lacking_0, d1, ot, c2, -kIdx3, -opC2_neT]
        · have h' : (e.1.1 - (fg : Int)) % ((m : Int) * m) = 0 := by
            unfold itOk at h
            rw [if_neg (by omega)] at h
            simpa using h
          generalize (m : Int) * m = M2 at *
          simp [l_lacking_0, d2, ot, h', -kIdx3, -opC2_neT]
      rw [forGo_cons ha step, ht]
    · have h' : itOk m a b fg w e = false := by simpa using h
      refine ⟨.ret (Lk.pair e.1).tr, .val (.tup [.int e.1.1, .int e.1.2]), .val (.int e.2), ?_, by rw [h', Bool.false_and]; exact ⟨e.1, rfl⟩⟩
      have step : exSs gc cf 64 l_lacking_0 ⟨[.val (.int m), x1, x2, .val (.int w), .val (.int a), .val (.int b), .val (.int fg), x7, x8, x9, x10, .val (.int ((m : Int) * m)), .val (.tup [.int e.1.1, .int e.1.2]), .val (.int e.2)], mem⟩ = .ok (.ret (Lk.pair e.1).tr) ⟨[.val (.int m), x1, x2, .val (.int w), .val (.int a), .val (.int b), .val (.int fg), x7, x8, x9, x10, .val (.int ((m : Int) * m)), .val (.tup [.int e.1.1, .int e.1.2]), .val (.int e.2)], mem⟩ := by
        clear ha
        unfold Lk.tr
        dsimp only
        rcases hw with rfl | rfl
        · have c := eqT_pair (e.1.1 % m) (e.1.2 % m) a b
          have h2 : ¬ (e.1.1 % (m : Int), e.1.2 % (m : Int)) = ((a : Int), (b : Int)) := by
            unfold itOk at h'
            rw [if_pos rfl] at h'
            simp only [decide_eq_false_iff_not] at h'
            intro x
            injection x with x y
            exact h' ⟨x, y⟩
          rw [decide_eq_false h2] at c
          have c2 : opC2 .ne (.tup [.int (e.1.1 % m), .int (e.1.2 % m)]) (.tup [.int a, .int b]) = some true := by rw [opC2_neT, c]; rfl
          simp [l_lacking_0, d1, ot, c2, -kIdx3, -opC2_neT]
        · have h2 : ¬ (e.1.1 - (fg : Int)) % ((m : Int) * m) = 0 := by
            unfold itOk at h'
            rw [if_neg (by omega)] at h'
            simpa using h'
          generalize (m : Int) * m = M2 at *
          simp [l_lacking_0, d2, ot, h2, -kIdx3, -opC2_neT]
      simp only [forGo, ha, step]
theorem all_rev (ts : List It) (p : It → Bool) : ts.reverse.all p = ts.all p := by
  rw [Bool.eq_iff_iff]
  simp only [List.all_eq_true, List.mem_reverse]
def rowT (a b fg : Nat) (z : Str) : Tr := .tup [.int a, .int b, .int fg, .str z]
theorem lacking {d m a b fg : Nat} {mem : List Ob} {w : Int} {f : Fo} {z : Str} (hd : 1 ≤ d) (h0 : 0 < m) (h9 : m ≤ 9) (hw : w = 1 ∨ w = -1) : ∃ l : Lk, callF gc 64 fs d n_lacking [.int m, rowT a b fg z, tF f, .int w] mem = some (l.tr, mem) ∧ l.is = okR m a b fg w f ∧ (l = .no ∨ (∃ v, l = .num "x" v) ∨ (∃ p, l = .pair p) ∨ (l = .num "y" f.2.2 ∧ f.2.2 ≠ 0)) := by
  obtain ⟨d, rfl⟩ : ∃ d', d = d' + 1 := ⟨d - 1, by omega⟩
  have lm : Lil (m : Int) := .of64 (by omega) (by omega)
  have mm : opB .mul (.int (m : Int)) (.int (m : Int)) = some (.int ((m : Int) * m)) := opB_mul lm lm
  have d1 : ∀ i : Int, opB .mod (.int i) (.int m) = some (.int (i % m)) := fun i => opB_mod (by omega)
  have mp : 0 < (m : Int) * m := Int.mul_pos (by omega) (by omega)
  have d2 : ∀ i : Int, opB .mod (.int i) (.int ((m : Int) * m)) = some (.int (i % ((m : Int) * m))) := fun i => opB_mod mp
  obtain ⟨fl, t12, t13, e, hf⟩ := lack_loop (cf := callF gc 64 fs d) (a := a) (b := b) (fg := fg) (mem := mem) (x1 := .val (rowT a b fg z)) (x2 := .val (tF f)) (x7 := .val (.str z)) (x8 := .val (.tup (f.1.reverse.map G17.trP))) (x9 := .val (.int f.2.1)) (x10 := .val (.int f.2.2)) h0 h9 hw f.1.reverse .none .none
  rw [all_rev] at hf
  have hi : ∀ l : List Tr, items 0 [.tup l] = some l := fun l => rfl
  have q1 : rowT a b fg z = .tup [.int a, .int b, .int fg, .str z] := rfl
  have q2 := tF_eq f
  rw [callS (fn := f_lacking) rfl rfl rfl]
  unfold okR
  rcases hw with rfl | rfl
  · simp only [if_true]
    by_cases c1 : f.2.1 % (m : Int) = 0
    · by_cases c2 : f.2.2 % (m : Int) = 0
      · rw [decide_eq_true ⟨c1, c2⟩, Bool.true_and]
        by_cases c3 : f.1.all (itOk m a b fg 1) = true
        · rw [if_pos c3] at hf
          subst hf
          refine ⟨.no, ?_, by rw [c3]; rfl, .inl rfl⟩
          rw [q1, q2] at e ⊢
          generalize f.1.reverse.map G17.trP = F0 at *
          clear c3
          generalize (m : Int) * m = M2 at *
          simp [f_lacking, b_lacking, mm, d1, d2, c1, c2, hi, e, asg, asgs, Lk.tr]
        · rw [if_neg c3] at hf
          obtain ⟨p, rfl⟩ := hf
          refine ⟨.pair p, ?_, by rw [show f.1.all (itOk m a b fg 1) = false by simpa using c3]; rfl, .inr (.inr (.inl ⟨p, rfl⟩))⟩
          rw [q1, q2] at e ⊢
          have pl := Lk.pure (.pair p)
          generalize (Lk.pair p).tr = R at *
          generalize f.1.reverse.map G17.trP = F0 at *
          clear c3
          generalize (m : Int) * m = M2 at *
          simp [f_lacking, b_lacking, mm, d1, d2, c1, c2, hi, e, pl, asg, asgs]
      · rw [decide_eq_false (fun x => c2 x.2), Bool.false_and]
        refine ⟨.num "y" f.2.2, ?_, rfl, .inr (.inr (.inr ⟨rfl, fun e => c2 (by rw [e]; simp)⟩))⟩
        rw [q1, q2]
        clear hf e
        generalize f.1.reverse.map G17.trP = F0 at *
        generalize (m : Int) * m = M2 at *
        simp [f_lacking, b_lacking, mm, d1, d2, c1, c2, asg, asgs, Lk.tr]
    · rw [decide_eq_false (fun x => c1 x.1), Bool.false_and]
      refine ⟨.num "x" f.2.1, ?_, rfl, .inr (.inl ⟨_, rfl⟩)⟩
      rw [q1, q2]
      clear hf e
      generalize f.1.reverse.map G17.trP = F0 at *
      generalize (m : Int) * m = M2 at *
      simp [f_lacking, b_lacking, mm, d1, d2, c1, asg, asgs, Lk.tr]
  · rw [if_neg (by omega)]
    by_cases c1 : f.2.1 % ((m : Int) * m) = 0
    · rw [decide_eq_true c1, Bool.true_and]
      by_cases c3 : f.1.all (itOk m a b fg (-1)) = true
      · rw [if_pos c3] at hf
        subst hf
        refine ⟨.no, ?_, by rw [c3]; rfl, .inl rfl⟩
        rw [q1, q2] at e ⊢
        generalize f.1.reverse.map G17.trP = F0 at *
        clear c3
        generalize (m : Int) * m = M2 at *
        simp [f_lacking, b_lacking, mm, d1, d2, c1, hi, e, asg, asgs, Lk.tr]
      · rw [if_neg c3] at hf
        obtain ⟨p, rfl⟩ := hf
        refine ⟨.pair p, ?_, by rw [show f.1.all (itOk m a b fg (-1)) = false by simpa using c3]; rfl, .inr (.inr (.inl ⟨p, rfl⟩))⟩
        rw [q1, q2] at e ⊢
        have pl := Lk.pure (.pair p)
        generalize (Lk.pair p).tr = R at *
        generalize f.1.reverse.map G17.trP = F0 at *
        clear c3
        generalize (m : Int) * m = M2 at *
        simp [f_lacking, b_lacking, mm, d1, d2, c1, hi, e, pl, asg, asgs]
    · rw [decide_eq_false c1, Bool.false_and]
      refine ⟨.num "x" f.2.1, ?_, rfl, .inr (.inl ⟨_, rfl⟩)⟩
      rw [q1, q2]
      clear hf e
      generalize f.1.reverse.map G17.trP = F0 at *
      generalize (m : Int) * m = M2 at *
      simp [f_lacking, b_lacking, mm, d1, d2, c1, asg, asgs, Lk.tr]
end G
/-! What a hand makes of a form: the program's. -/
namespace G
open Ev PySem L2 G17
theorem tF_turned (f : Fo) : tF (turned f) = .tup [.tup (f.1.reverse.map fun e => G17.trP ((e.1.2, e.1.1), e.2)), .int f.2.2, .int f.2.1] := by
  rw [tF_eq]
  unfold turned
  rw [← List.map_reverse, List.map_map]
  rfl
theorem exchanged_of {d : Nat} {mem : List Ob} {f : Fo} (hd : 1 ≤ d) (hl : f.1.length ≤ 100000) : callF gc 64 fs d n_exchanged_of [tF f] mem = some (tF (turned f), mem) := by
  obtain ⟨d, rfl⟩ : ∃ d', d = d' + 1 := ⟨d - 1, by omega⟩
  have e := fun x0 x1 x2 x3 => comp_each (f := compF (.tp [.nm 4, .nm 5]) [x0, x1, x2, x3, .none, .none] (kCond gc (callF gc 64 fs d) .nul) (kElt gc (callF gc 64 fs d) e_exchanged_of_0)) (tr := G17.trP) (t2 := fun e : It => G17.trP ((e.1.2, e.1.1), e.2)) (mem := mem) f.1.reverse (fun z _ => by
    have ot : ∀ (l : List Tr) (y : Tr) (s2 : Sta), kIdx3 y s2 (.tup l) = Rs.of (idxT (.tup l) (s2.deref y)) s2 := fun l y s2 => rfl
    simp [compF, asg, asgs, G17.trP, e_exchanged_of_0, isNul, ot, -kIdx3]) (by simp; omega)
  have hi : ∀ l : List Tr, items 0 [.tup l] = some l := fun l => rfl
  rw [callS (fn := f_exchanged_of) rfl rfl rfl, tF_turned, tF_eq]
  generalize (f.1.reverse.map fun e => G17.trP ((e.1.2, e.1.1), e.2)) = R at *
  generalize f.1.reverse.map G17.trP = F0 at *
  generalize callF gc 64 fs d = cf at *
  simp [f_exchanged_of, b_exchanged_of, hi, e, wipeE, Slot.lock, asg, asgs]
theorem exchanged_row {d a b fg : Nat} {z : Str} {mem : List Ob} (hd : 1 ≤ d) : callF gc 64 fs d n_exchanged_row [rowT a b fg z] mem = some (rowT b a fg "right", mem) := by
  obtain ⟨d, rfl⟩ : ∃ d', d = d' + 1 := ⟨d - 1, by omega⟩
  rw [callS (fn := f_exchanged_row) rfl rfl rfl]
  simp [f_exchanged_row, b_exchanged_row, rowT, asg, asgs]
theorem okR_split (m a b fg : Nat) (w : Int) (f : Fo) : okR m a b fg w f = (okR m a b fg w ([], 0, f.2.2) && okR m a b fg w (f.1, f.2.1, 0)) := by
  unfold okR
  by_cases h : w = 1
  · simp only [if_pos h, List.all_nil, Bool.and_true]
    have e1 : (0 : Int) % (m : Int) = 0 := by simp
    rw [Bool.eq_iff_iff]
    simp only [Bool.and_eq_true, decide_eq_true_eq, e1, true_and, and_true]
    exact ⟨fun ⟨⟨x, y⟩, z⟩ => ⟨y, x, z⟩, fun ⟨y, x, z⟩ => ⟨⟨x, y⟩, z⟩⟩
  · simp only [if_neg h, List.all_nil, Bool.and_true]
    have e1 : (0 : Int) % ((m : Int) * m) = 0 := by simp
    rw [e1]
    simp
theorem trRowT (r : Row) : trRow r = rowT r.a r.b r.f (sd r.s) := rfl
theorem idx_m1 (r : Row) : idxT (trRow r) (.int (-1)) = some (.str (sd r.s)) := by
  show idxT (.tup [.int r.a, .int r.b, .int r.f, .str (sd r.s)]) (.int (-1)) = _
  rw [idxT_tm]
  rfl
theorem sd_right (r : Row) : opC2 .eq (.str (sd r.s)) (.str "right") = some r.s := by
  cases h : r.s with
  | true => exact cS rfl
  | false => exact cN (by decide +kernel)
def okF (m : Nat) (r : Row) (w : Int) (f : Fo) : Bool := if r.s then okR m r.a r.b r.f w f else okR m r.b r.a r.f w (turned f)
theorem isNo {l : Lk} (h : l.is = true) : l = .no := by cases l <;> first | rfl | cases h
theorem idx_row {rows : List Row} {k : Nat} {r : Row} (h : rows[k]? = some r) : idxT (.lst (rows.map trRow)) (.int (k : Int)) = some (trRow r) := by
  show atI _ (k : Int) = _
  rw [Ev.atI_nat, List.getElem?_map, h]
  rfl
theorem turned_eq (f : Fo) : tF (turned f) = .tup [.tup ((turned f).1.reverse.map G17.trP), .int (turned f).2.1, .int (turned f).2.2] := rfl
theorem lack_of {d m i : Nat} {mem : List Ob} {rows : List Row} {r : Row} {f : Fo} {w : Int} (hd : 2 ≤ d) (hM : MOk m rows) (hr : rows[i]? = some r) (hl : f.1.length ≤ 40000) (hw : w = 1 ∨ w = -1) :
    ∃ t : Tr, callF gc 64 fs d n_lack_of [trM m rows, .int i, tF f, .int w] mem = some (t, mem) ∧ t.pure = true ∧ opC2 .notN t .non = some (!okF m r w f) := by
  obtain ⟨d, rfl⟩ : ∃ d', d = d' + 1 := ⟨d - 1, by omega⟩
  have lo := hM.lo
  have h9 := hM.hi
  have f1 := @trM_fig m rows
  have f2 := @trM_rows m rows
  have dM : ∀ s : Sta, s.deref (trM m rows) = trM m rows := fun s => rfl
  have dF : ∀ s : Sta, s.deref (tF f) = tF f := fun s => rfl
  have pF : (tF f).pure = true := rfl
  have ol : ∀ (l : List Tr) (y : Tr) (s2 : Sta), kIdx3 y s2 (.lst l) = Rs.of (idxT (.lst l) (s2.deref y)) s2 := fun l y s2 => rfl
  have ot : ∀ (l : List Tr) (y : Tr) (s2 : Sta), kIdx3 y s2 (.tup l) = Rs.of (idxT (.tup l) (s2.deref y)) s2 := fun l y s2 => rfl
  have ix := idx_row hr
  have im := idx_m1 r
  have or : ∀ (y : Tr) (s2 : Sta), kIdx3 y s2 (trRow r) = Rs.of (idxT (trRow r) (s2.deref y)) s2 := fun y s2 => rfl
  have dR : ∀ s : Sta, s.deref (trRow r) = trRow r := fun s => rfl
  have pR : (trRow r).pure = true := rfl
  have c := sd_right r
  rw [callS (fn := f_lack_of) rfl rfl rfl]
  unfold okF
  cases hs : r.s with
  | true =>
    replace c : opC2 .eq (.str (sd r.s)) (.str "right") = some true := c.trans (by rw [hs])
    obtain ⟨l, e, hl1, _⟩ := lacking (d := d) (mem := mem) (a := r.a) (b := r.b) (fg := r.f) (f := f) (z := sd r.s) (by omega) (by omega) h9 hw
    rw [← trRowT] at e
    have pl := Lk.pure l
    refine ⟨l.tr, ?_, pl, ?_⟩
    · generalize l.tr = R at *
      generalize sd r.s = z at *
      generalize trRow r = TR at *
      generalize rows.map trRow = RR at *
      generalize tF f = F at *
      generalize trM m rows = T at *
      generalize callF gc 64 fs d = cf at *
      simp [f_lack_of, b_lack_of, f1, f2, dM, dF, pF, ol, ix, im, or, dR, pR, c, e, pl, -kFld2, -kIdx3, -opC2_eqS, -idxT_tm]
    · rw [if_pos rfl, ← hl1]
      cases l <;> rfl
  | false =>
    replace c : opC2 .eq (.str (sd r.s)) (.str "right") = some false := c.trans (by rw [hs])
    rw [if_neg (by decide), okR_split]
    obtain ⟨l1, e1, h1, k1⟩ := lacking (d := d) (mem := mem) (a := r.b) (b := r.a) (fg := r.f) (f := ([], 0, (turned f).2.2)) (z := "right") (by omega) (by omega) h9 hw
    obtain ⟨l2, e2, h2, k2⟩ := lacking (d := d) (mem := mem) (a := r.b) (b := r.a) (fg := r.f) (f := ((turned f).1, (turned f).2.1, 0)) (z := "right") (by omega) (by omega) h9 hw
    have ex := exchanged_of (d := d) (mem := mem) (f := f) (by omega) (by omega)
    have er := exchanged_row (d := d) (mem := mem) (a := r.a) (b := r.b) (fg := r.f) (z := sd r.s) (by omega)
    rw [← trRowT] at er
    have q0 : tF ([], 0, (turned f).2.2) = .tup [.tup [], .int 0, .int (turned f).2.2] := rfl
    have q2 : tF ((turned f).1, (turned f).2.1, 0) = .tup [.tup ((turned f).1.reverse.map G17.trP), .int (turned f).2.1, .int 0] := rfl
    have q3 := turned_eq f
    rw [q0] at e1
    rw [q2] at e2
    rw [q3] at ex
    have pT : (rowT r.b r.a r.f "right").pure = true := rfl
    have pl1 := Lk.pure l1
    have pl2 := Lk.pure l2
    have dl1 : ∀ s : Sta, s.deref l1.tr = l1.tr := fun s => d_pure pl1
    have dl2 : ∀ s : Sta, s.deref l2.tr = l2.tr := fun s => d_pure pl2
    have cx : opC2 .eq (.str "x") (.str "x") = some true := cS rfl
    have ct : opC2 .eq (.str "t") (.str "x") = some false := cN (by decide +kernel)
    clear q0 q2 q3
    by_cases g1 : l1.is = true
    · have z1 := isNo g1
      subst z1
      rw [← h1]
      have e1' : callF gc 64 fs d n_lacking [.int m, rowT r.b r.a r.f "right", .tup [.tup [], .int 0, .int (turned f).2.2], .int w] mem = some (.non, mem) := e1
      by_cases g2 : l2.is = true
      · have z2 := isNo g2
        subst z2
        rw [← h2]
        have e2' : callF gc 64 fs d n_lacking [.int m, rowT r.b r.a r.f "right", .tup [.tup ((turned f).1.reverse.map G17.trP), .int (turned f).2.1, .int 0], .int w] mem = some (.non, mem) := e2
        refine ⟨.non, ?_, rfl, rfl⟩
        clear h1 h2 k1 k2 e1 e2 dl1 dl2 pl1 pl2 g1 g2
        generalize (turned f).1.reverse.map G17.trP = F0 at *
        generalize (turned f).2.1 = A1 at *
        generalize (turned f).2.2 = A2 at *
        generalize rowT r.b r.a r.f "right" = RT at *
        generalize sd r.s = z at *
        generalize trRow r = TR at *
        generalize rows.map trRow = RR at *
        generalize tF f = F at *
        generalize trM m rows = T at *
        generalize callF gc 64 fs d = cf at *
        simp [f_lack_of, b_lack_of, f1, f2, dM, dF, pF, ol, ot, ix, im, or, dR, pR, pT, c, er, ex, e1', e2', asg, asgs, -kFld2, -kIdx3, -opC2_eqS, -idxT_tm]
      · have g2' : l2.is = false := by simpa using g2
        rw [← h2, g2']
        rcases k2 with rfl | ⟨v, rfl⟩ | ⟨p, rfl⟩ | ⟨rfl, hz⟩
        · cases g2'
        · have e2' : callF gc 64 fs d n_lacking [.int m, rowT r.b r.a r.f "right", .tup [.tup ((turned f).1.reverse.map G17.trP), .int (turned f).2.1, .int 0], .int w] mem = some (.tup [.str "x", .int v], mem) := e2
          refine ⟨.tup [.str "y", .int v], ?_, rfl, rfl⟩
          clear h1 h2 k1 e1 e2 dl1 dl2 pl1 pl2 g1 g2 g2'
          generalize (turned f).1.reverse.map G17.trP = F0 at *
          generalize (turned f).2.1 = A1 at *
          generalize (turned f).2.2 = A2 at *
          generalize rowT r.b r.a r.f "right" = RT at *
          generalize sd r.s = z at *
          generalize trRow r = TR at *
          generalize rows.map trRow = RR at *
          generalize tF f = F at *
          generalize trM m rows = T at *
          generalize callF gc 64 fs d = cf at *
          simp [f_lack_of, b_lack_of, f1, f2, dM, dF, pF, ol, ot, ix, im, or, dR, pR, pT, c, er, ex, e1', e2', cx, asg, asgs, -kFld2, -kIdx3, -opC2_eqS, -idxT_tm]
        · have e2' : callF gc 64 fs d n_lacking [.int m, rowT r.b r.a r.f "right", .tup [.tup ((turned f).1.reverse.map G17.trP), .int (turned f).2.1, .int 0], .int w] mem = some (.tup [.str "t", .tup [.int p.1, .int p.2]], mem) := e2
          refine ⟨.tup [.str "t", .tup [.int p.2, .int p.1]], ?_, rfl, rfl⟩
          clear h1 h2 k1 e1 e2 dl1 dl2 pl1 pl2 g1 g2 g2'
          generalize (turned f).1.reverse.map G17.trP = F0 at *
          generalize (turned f).2.1 = A1 at *
          generalize (turned f).2.2 = A2 at *
          generalize rowT r.b r.a r.f "right" = RT at *
          generalize sd r.s = z at *
          generalize trRow r = TR at *
          generalize rows.map trRow = RR at *
          generalize tF f = F at *
          generalize trM m rows = T at *
          generalize callF gc 64 fs d = cf at *
          simp [f_lack_of, b_lack_of, f1, f2, dM, dF, pF, ol, ot, ix, im, or, dR, pR, pT, c, er, ex, e1', e2', ct, asg, asgs, -kFld2, -kIdx3, -opC2_eqS, -idxT_tm]
        · exact absurd rfl hz
    · have g1' : l1.is = false := by simpa using g1
      rw [← h1, g1', Bool.false_and]
      have hz : ∃ (z : Str) (v : Tr), l1.tr = .tup [.str z, v] ∧ v.pure = true := by
        rcases k1 with rfl | ⟨v, rfl⟩ | ⟨p, rfl⟩ | ⟨rfl, _⟩
        · cases g1'
        · exact ⟨_, _, rfl, rfl⟩
        · exact ⟨_, _, rfl, rfl⟩
        · exact ⟨_, _, rfl, rfl⟩
      obtain ⟨z, v, hz, pv⟩ := hz
      rw [hz] at e1
      refine ⟨.tup [.str "x", v], ?_, rfl, rfl⟩
      have dv : ∀ s : Sta, s.deref v = v := fun s => d_pure pv
      clear h1 h2 k1 k2 e2 dl1 dl2 pl1 pl2 g1 g1' hz
      generalize (turned f).1.reverse.map G17.trP = F0 at *
      generalize (turned f).2.1 = A1 at *
      generalize (turned f).2.2 = A2 at *
      generalize rowT r.b r.a r.f "right" = RT at *
      generalize sd r.s = zz at *
      generalize trRow r = TR at *
      generalize rows.map trRow = RR at *
      generalize tF f = F at *
      generalize trM m rows = T at *
      generalize callF gc 64 fs d = cf at *
      simp [f_lack_of, b_lack_of, f1, f2, dM, dF, pF, ol, ot, ix, im, or, dR, pR, pT, c, er, ex, e1, pv, dv, asg, asgs, -kFld2, -kIdx3, -opC2_eqS, -idxT_tm]
end G
/-! A hand carries a form: the program's. -/
namespace G
open Ev PySem L2 G17
theorem lilB {i : Int} {B : Nat} (h : i.natAbs < 2 ^ B) (hB : 0 < B) (hB2 : B ≤ 300000) : Lil i := Lil.of B hB (by omega) h
theorem tF_car (m a b fg : Nat) (w : Int) (f : Fo) : tF (carR m a b fg w f) = .tup [.tup (f.1.reverse.map fun e => G17.trP (itCar m a b fg w e)), .int (carR m a b fg w f).2.1, .int (carR m a b fg w f).2.2] := by
  rw [tF_eq]
  unfold carR
  rw [← List.map_reverse, List.map_map]
  rfl
theorem car_loop {cf : CF} {m a b fg B : Nat} {mem : List Ob} {x1 x2 x7 x8 x9 x10 : Slot} {w : Int} (h0 : 0 < m) (h9 : m ≤ 9) (hf : fg < 100) (hw : w = 1 ∨ w = -1) (hB : 8 ≤ B) (hB2 : B ≤ 200000) : ∀ (ts : List It) (acc : List Tr) (s13 s14 s15 : Slot), (∀ e ∈ ts, e.1.1.natAbs < 2 ^ B ∧ e.1.2.natAbs < 2 ^ B) → acc.length + ts.length ≤ 100000 → ∃ t13 t14 t15,
    forGo (.tp [.nm 13, .nm 14]) (exSs gc cf 64 l_carried_0) (ts.map G17.trP) ⟨[.val (.int m), x1, x2, .val (.int w), .val (.int a), .val (.int b), .val (.int fg), x7, x8, x9, x10, .val (.int ((m : Int) * m)), .own (.lst acc), s13, s14, s15], mem⟩ =
      .ok .next ⟨[.val (.int m), x1, x2, .val (.int w), .val (.int a), .val (.int b), .val (.int fg), x7, x8, x9, x10, .val (.int ((m : Int) * m)), .own (.lst (acc ++ ts.map fun e => G17.trP (itCar m a b fg w e))), t13, t14, t15], mem⟩
  | [], acc, s13, s14, s15, _, _ => ⟨s13, s14, s15, by simp [forGo]⟩
  | e :: ts, acc, s13, s14, s15, hb, hl => by
    rw [List.length_cons] at hl
    obtain ⟨b1, b2⟩ := hb e (List.mem_cons_self ..)
    have ot : ∀ (l : List Tr) (y : Tr) (s2 : Sta), kIdx3 y s2 (.tup l) = Rs.of (idxT (.tup l) (s2.deref y)) s2 := fun l y s2 => rfl
    have lm : Lil (m : Int) := .of64 (by omega) (by omega)
    have mm : (m : Int) * m = ((m * m : Nat) : Int) := by simp
    have mm2 : m * m ≤ 81 := Nat.mul_le_mul h9 h9
    have mp : 0 < m * m := Nat.mul_pos h0 h0
    have lM : Lil ((m : Int) * m) := by rw [mm]; exact .of64 (by omega) (by omega)
    have d1 : ∀ i : Int, opB .fdiv (.int i) (.int m) = some (.int (i / m)) := fun i => opB_fdiv (by omega) (by omega)
    have d2 : ∀ i : Int, opB .fdiv (.int i) (.int ((m : Int) * m)) = some (.int (i / ((m : Int) * m))) := fun i => by rw [mm]; exact opB_fdiv (by omega) (by omega)
    have q1 : (e.1.1 / (m : Int)).natAbs ≤ e.1.1.natAbs := Int.natAbs_ediv_le_natAbs ..
    have q2 : ((e.1.1 - (fg : Int)) / ((m : Int) * m)).natAbs ≤ (e.1.1 - (fg : Int)).natAbs := Int.natAbs_ediv_le_natAbs ..
    have p8 : 2 ^ 8 ≤ 2 ^ B := Nat.pow_le_pow_right (by omega) hB
    have pB : 2 ^ (B + 1) = 2 ^ B * 2 := by rw [Nat.pow_succ]
    have u1 : opB .mul (.int (e.1.1 / (m : Int))) (.int ((m : Int) * m)) = some (.int (e.1.1 / (m : Int) * ((m : Int) * m))) := opB_mul (lilB (B := B) (by omega) (by omega) (by omega)) lM
    have u2 : opB .mul (.int ((e.1.1 - (fg : Int)) / ((m : Int) * m))) (.int m) = some (.int ((e.1.1 - (fg : Int)) / ((m : Int) * m) * m)) := opB_mul (lilB (B := B + 1) (by omega) (by omega) (by omega)) lm
    have u3 : opB .mul (.int e.1.2) (.int m) = some (.int (e.1.2 * m)) := opB_mul (lilB b2 (by omega) (by omega)) lm
    have al : acc.length < 16777216 := by omega
    have ha : asg (.tp [.nm 13, .nm 14]) (G17.trP e) [.val (.int m), x1, x2, .val (.int w), .val (.int a), .val (.int b), .val (.int fg), x7, x8, x9, x10, .val (.int ((m : Int) * m)), .own (.lst acc), s13, s14, s15] = some [.val (.int m), x1, x2, .val (.int w), .val (.int a), .val (.int b), .val (.int fg), x7, x8, x9, x10, .val (.int ((m : Int) * m)), .own (.lst acc), .val (.tup [.int e.1.1, .int e.1.2]), .val (.int e.2), s15] := by simp [asg, asgs, G17.trP]
    obtain ⟨t13, t14, t15, ht⟩ := car_loop (cf := cf) (a := a) (b := b) (mem := mem) (x1 := x1) (x2 := x2) (x7 := x7) (x8 := x8) (x9 := x9) (x10 := x10) h0 h9 hf hw hB hB2 ts (acc ++ [G17.trP (itCar m a b fg w e)]) (.val (.tup [.int e.1.1, .int e.1.2])) (.val (.int e.2)) (.val (.tup [.int (itCar m a b fg w e).1.1, .int (itCar m a b fg w e).1.2])) (fun x hx => hb x (List.mem_cons_of_mem _ hx)) (by simp; omega)
    refine ⟨t13, t14, t15, ?_⟩
    have step : exSs gc cf 64 l_carried_0 ⟨[.val (.int m), x1, x2, .val (.int w), .val (.int a), .val (.int b), .val (.int fg), x7, x8, x9, x10, .val (.int ((m : Int) * m)), .own (.lst acc), .val (.tup [.int e.1.1, .int e.1.2]), .val (.int e.2), s15], mem⟩ = .ok .next ⟨[.val (.int m), x1, x2, .val (.int w), .val (.int a), .val (.int b), .val (.int fg), x7, x8, x9, x10, .val (.int ((m : Int) * m)), .own (.lst (acc ++ [G17.trP (itCar m a b fg w e)])), .val (.tup [.int e.1.1, .int e.1.2]), .val (.int e.2), .val (.tup [.int (itCar m a b fg w e).1.1, .int (itCar m a b fg w e).1.2])], mem⟩ := by
      clear ht ha
      rcases hw with rfl | rfl
      · have q : itCar m a b fg 1 e = ((e.1.1 / (m : Int) * ((m : Int) * m) + fg, e.1.2 / (m : Int)), e.2) := by unfold itCar; rw [if_pos rfl]
        rw [q]
        unfold G17.trP
        dsimp only
        generalize e.1.1 / (m : Int) * ((m : Int) * m) = Z at *
        generalize (m : Int) * m = M2 at *
        simp [l_carried_0, d1, d2, u1, u2, u3, ot, al, -kIdx3]
      · have q : itCar m a b fg (-1) e = (((e.1.1 - fg) / ((m : Int) * m) * m + a, e.1.2 * m + b), e.2) := by unfold itCar; rw [if_neg (by omega)]
        rw [q]
        unfold G17.trP
        dsimp only
        generalize (e.1.1 - (fg : Int)) / ((m : Int) * m) * (m : Int) = Z at *
        generalize (m : Int) * m = M2 at *
        simp [l_carried_0, d1, d2, u1, u2, u3, ot, al, -kIdx3]
    rw [List.map_cons, forGo_cons ha step, ht, List.append_assoc]
    rfl
theorem carried {d m a b fg B : Nat} {mem : List Ob} {w : Int} {f : Fo} {z : Str} (hd : 1 ≤ d) (h0 : 0 < m) (h9 : m ≤ 9) (hf : fg < 100) (hw : w = 1 ∨ w = -1) (hB : 8 ≤ B) (hB2 : B ≤ 200000) (hb : FB B f) (hl : f.1.length ≤ 40000) :
    callF gc 64 fs d n_carried [.int m, rowT a b fg z, tF f, .int w] mem = some (tF (carR m a b fg w f), mem) := by
  obtain ⟨d, rfl⟩ : ∃ d', d = d' + 1 := ⟨d - 1, by omega⟩
  have lm : Lil (m : Int) := .of64 (by omega) (by omega)
  have mm : opB .mul (.int (m : Int)) (.int (m : Int)) = some (.int ((m : Int) * m)) := opB_mul lm lm
  have d1 : ∀ i : Int, opB .fdiv (.int i) (.int m) = some (.int (i / m)) := fun i => opB_fdiv (by omega) (by omega)
  have v1 : opB .mul (.int f.2.1) (.int m) = some (.int (f.2.1 * m)) := opB_mul (lilB hb.2.1 (by omega) (by omega)) lm
  have v2 : opB .mul (.int f.2.2) (.int m) = some (.int (f.2.2 * m)) := opB_mul (lilB hb.2.2 (by omega) (by omega)) lm
  obtain ⟨t13, t14, t15, e⟩ := car_loop (cf := callF gc 64 fs d) (a := a) (b := b) (mem := mem) (x1 := .val (rowT a b fg z)) (x2 := .val (tF f)) (x7 := .val (.str z)) (x8 := .val (.tup (f.1.reverse.map G17.trP))) (x9 := .val (.int f.2.1)) (x10 := .val (.int f.2.2)) h0 h9 hf hw hB hB2 f.1.reverse [] .none .none .none (fun x hx => hb.1 x (List.mem_reverse.mp hx)) (by simp; omega)
  have hi : ∀ l : List Tr, items 0 [.tup l] = some l := fun l => rfl
  have q1 : rowT a b fg z = .tup [.int a, .int b, .int fg, .str z] := rfl
  have q2 := tF_eq f
  rw [List.nil_append] at e
  rw [callS (fn := f_carried) rfl rfl rfl, tF_car]
  generalize (f.1.reverse.map fun e => G17.trP (itCar m a b fg w e)) = R at *
  rw [q1, q2] at e ⊢
  rcases hw with rfl | rfl
  · have c1 : (carR m a b fg 1 f).2.1 = f.2.1 * m := by unfold carR; rw [if_pos rfl]
    have c2 : (carR m a b fg 1 f).2.2 = f.2.2 / (m : Int) := by unfold carR; rw [if_pos rfl]
    rw [c1, c2]
    generalize f.1.reverse.map G17.trP = F0 at *
    generalize (m : Int) * m = M2 at *
    simp [f_carried, b_carried, mm, d1, v1, v2, hi, e, asg, asgs, manyGo, ownOb, d_own]
  · have c1 : (carR m a b fg (-1) f).2.1 = f.2.1 / (m : Int) := by unfold carR; rw [if_neg (by omega)]
    have c2 : (carR m a b fg (-1) f).2.2 = f.2.2 * m := by unfold carR; rw [if_neg (by omega)]
    rw [c1, c2]
    generalize f.1.reverse.map G17.trP = F0 at *
    generalize (m : Int) * m = M2 at *
    simp [f_carried, b_carried, mm, d1, v1, v2, hi, e, asg, asgs, manyGo, ownOb, d_own]
def optF : Option Fo → Tr
  | none => .non
  | some f => tF f
theorem turned_len (f : Fo) : (turned f).1.length = f.1.length := by simp [turned]
theorem carR_len (m a b fg : Nat) (w : Int) (f : Fo) : (carR m a b fg w f).1.length = f.1.length := by simp [carR]
theorem passF_eq {m i : Nat} {rows : List Row} {r : Row} {f : Fo} {w : Int} (hr : rows[i]? = some r) : passF m rows i f w = if okF m r w f then some (if r.s then carR m r.a r.b r.f w f else turned (carR m r.b r.a r.f w (turned f))) else none := by
  unfold passF okF passR
  rw [hr]
  dsimp only
  cases r.s with
  | true => simp only [if_true]
  | false =>
    simp only [Bool.false_eq_true, if_false]
    split <;> rfl
theorem passed_of {d m i B : Nat} {mem : List Ob} {rows : List Row} {f : Fo} {w : Int} (hd : 3 ≤ d) (hM : MOk m rows) (hi : i < rows.length) (hl : f.1.length ≤ 40000) (hw : w = 1 ∨ w = -1) (hB : 8 ≤ B) (hB2 : B ≤ 200000) (hb : FB B f) :
    callF gc 64 fs d n_passed_of [trM m rows, .int i, tF f, .int w] mem = some (optF (passF m rows i f w), mem) := by
  obtain ⟨d, rfl⟩ : ∃ d', d = d' + 1 := ⟨d - 1, by omega⟩
  have lo := hM.lo
  have h9 := hM.hi
  have hr : rows[i]? = some rows[i] := List.getElem?_eq_getElem hi
  have sm := (hM.ok _ (List.getElem_mem hi)).small hM.hi
  rw [passF_eq hr]
  generalize rows[i] = r at *
  obtain ⟨t, e1, pt, ct⟩ := lack_of (d := d) (mem := mem) (f := f) (by omega) hM hr hl hw
  have dt : ∀ s : Sta, s.deref t = t := fun s => d_pure pt
  have f1 := @trM_fig m rows
  have f2 := @trM_rows m rows
  have dM : ∀ s : Sta, s.deref (trM m rows) = trM m rows := fun s => rfl
  have pM : (trM m rows).pure = true := rfl
  have pF : (tF f).pure = true := rfl
  have ol : ∀ (l : List Tr) (y : Tr) (s2 : Sta), kIdx3 y s2 (.lst l) = Rs.of (idxT (.lst l) (s2.deref y)) s2 := fun l y s2 => rfl
  have ix := idx_row hr
  have im := idx_m1 r
  have or : ∀ (y : Tr) (s2 : Sta), kIdx3 y s2 (trRow r) = Rs.of (idxT (trRow r) (s2.deref y)) s2 := fun y s2 => rfl
  have dR : ∀ s : Sta, s.deref (trRow r) = trRow r := fun s => rfl
  have pR : (trRow r).pure = true := rfl
  have c := sd_right r
  rw [callS (fn := f_passed_of) rfl rfl rfl]
  cases ho : okF m r w f with
  | false =>
    rw [ho] at ct
    generalize trRow r = TR at *
    generalize rows.map trRow = RR at *
    generalize tF f = F at *
    generalize trM m rows = T at *
    generalize callF gc 64 fs d = cf at *
    simp [f_passed_of, b_passed_of, e1, ct, pt, dt, pM, pF, optF]
  | true =>
    rw [ho] at ct
    rw [if_pos rfl]
    cases hs : r.s with
    | true =>
      replace c : opC2 .eq (.str (sd r.s)) (.str "right") = some true := c.trans (by rw [hs])
      have e2 := carried (d := d) (mem := mem) (a := r.a) (b := r.b) (z := sd r.s) (by omega) (by omega) h9 sm.2.2 hw hB hB2 hb hl
      rw [← trRowT] at e2
      have q : optF (some (if true = true then carR m r.a r.b r.f w f else turned (carR m r.b r.a r.f w (turned f)))) = tF (carR m r.a r.b r.f w f) := rfl
      have pC : (tF (carR m r.a r.b r.f w f)).pure = true := rfl
      rw [q]
      generalize tF (carR m r.a r.b r.f w f) = R at *
      generalize sd r.s = z at *
      generalize trRow r = TR at *
      generalize rows.map trRow = RR at *
      generalize tF f = F at *
      generalize trM m rows = T at *
      generalize callF gc 64 fs d = cf at *
      simp [f_passed_of, b_passed_of, e1, ct, pt, dt, pM, pF, f1, f2, dM, ol, ix, im, or, dR, pR, c, e2, pC, -kFld2, -kIdx3, -opC2_eqS, -idxT_tm]
    | false =>
      replace c : opC2 .eq (.str (sd r.s)) (.str "right") = some false := c.trans (by rw [hs])
      have er := exchanged_row (d := d) (mem := mem) (a := r.a) (b := r.b) (fg := r.f) (z := sd r.s) (by omega)
      rw [← trRowT] at er
      have ex := exchanged_of (d := d) (mem := mem) (f := f) (by omega) (by omega)
      have e2 := carried (d := d) (mem := mem) (a := r.b) (b := r.a) (z := "right") (f := turned f) (by omega) (by omega) h9 sm.2.2 hw hB hB2 hb.turned (by rw [turned_len]; exact hl)
      have e3 := exchanged_of (d := d) (mem := mem) (f := carR m r.b r.a r.f w (turned f)) (by omega) (by rw [carR_len, turned_len]; omega)
      have q : optF (some (if false = true then carR m r.a r.b r.f w f else turned (carR m r.b r.a r.f w (turned f)))) = tF (turned (carR m r.b r.a r.f w (turned f))) := rfl
      have pC : (tF (turned (carR m r.b r.a r.f w (turned f)))).pure = true := rfl
      have pC2 : (tF (carR m r.b r.a r.f w (turned f))).pure = true := rfl
      have pT : (tF (turned f)).pure = true := rfl
      have pW : (rowT r.b r.a r.f "right").pure = true := rfl
      rw [q]
      generalize tF (turned (carR m r.b r.a r.f w (turned f))) = R at *
      generalize tF (carR m r.b r.a r.f w (turned f)) = R2 at *
      generalize tF (turned f) = R3 at *
      generalize rowT r.b r.a r.f "right" = RT at *
      generalize sd r.s = z at *
      generalize trRow r = TR at *
      generalize rows.map trRow = RR at *
      generalize tF f = F at *
      generalize trM m rows = T at *
      generalize callF gc 64 fs d = cf at *
      simp [f_passed_of, b_passed_of, e1, ct, pt, dt, pM, pF, f1, f2, dM, ol, ix, im, or, dR, pR, c, er, ex, e2, e3, pC, pC2, pT, pW, -kFld2, -kIdx3, -opC2_eqS, -idxT_tm]
end G
/-! What a hand makes of a form: the law's own. -/
namespace G
open Ev PySem L2 G17
theorem law_turned {d : Nat} {mem : List Ob} {f : Fo} (hd : 1 ≤ d) (hl : f.1.length ≤ 100000) : callF gc 64 fs d n_law_turned [tF f] mem = some (tF (turned f), mem) := by
  obtain ⟨d, rfl⟩ : ∃ d', d = d' + 1 := ⟨d - 1, by omega⟩
  have e := fun x0 => comp_each (f := compF (.tp [.tp [.nm 1, .nm 2], .nm 3]) [x0, .none, .none, .none] (kCond gc (callF gc 64 fs d) .nul) (kElt gc (callF gc 64 fs d) e_law_turned_0)) (tr := G17.trP) (t2 := fun e : It => G17.trP ((e.1.2, e.1.1), e.2)) (mem := mem) f.1.reverse (fun z _ => by
    simp [compF, asg, asgs, G17.trP, e_law_turned_0, isNul]) (by simp; omega)
  have hi : ∀ l : List Tr, items 0 [.tup l] = some l := fun l => rfl
  have ot : ∀ (l : List Tr) (y : Tr) (s2 : Sta), kIdx3 y s2 (.tup l) = Rs.of (idxT (.tup l) (s2.deref y)) s2 := fun l y s2 => rfl
  rw [callS (fn := f_law_turned) rfl rfl rfl, tF_turned, tF_eq]
  generalize (f.1.reverse.map fun e => G17.trP ((e.1.2, e.1.1), e.2)) = R at *
  generalize f.1.reverse.map G17.trP = F0 at *
  generalize callF gc 64 fs d = cf at *
  simp [f_law_turned, b_law_turned, hi, ot, e, wipeE, Slot.lock, -kIdx3]
theorem anyB {α : Type} (p : α → Bool) : ∀ L : List α, biT .any [.lst (L.map fun x => Tr.bl (p x))] = some (.bl (L.any p)) := by
  have h : ∀ L : List α, boolsOf (L.map fun x => Tr.bl (p x)) = some (L.map p) := by
    intro L
    induction L with
    | nil => rfl
    | cons x L ih => simp [boolsOf, ih]
  intro L
  rw [b_any, h L]
  simp
theorem div_two {x m : Int} (hm : m ≠ 0) (h : x % (m * m) = 0) : x / m = x / (m * m) * m := by
  have e : x = m * (m * (x / (m * m))) := by
    have := Int.mul_ediv_add_emod x (m * m)
    rw [h, Int.add_zero, Int.mul_assoc] at this
    exact this.symm
  have e2 : x / m = m * (x / (m * m)) := by
    conv => lhs; rw [e]
    exact Int.mul_ediv_cancel_left _ hm
  rw [e2, Int.mul_comm]
theorem any_all (ts : List It) (p : It → Bool) : ts.reverse.any (fun e => !p e) = !ts.all p := by
  rw [Bool.eq_iff_iff]
  simp
theorem law_passR {d m i B : Nat} {mem : List Ob} {rows : List Row} {r : Row} {f : Fo} {w : Int} (hd : 1 ≤ d) (h0 : 2 ≤ m) (h9 : m ≤ 9) (sm : r.small) (hr : rows[i]? = some r) (hs : r.s = true) (hl : f.1.length ≤ 40000) (hw : w = 1 ∨ w = -1) (hB : 8 ≤ B) (hB2 : B ≤ 200000) (hb : FB B f) :
    callF gc 64 fs d n_law_passed [trO m rows, .int i, tF f, .int w] mem = some (optF (passR m r.a r.b r.f w f), mem) := by
  obtain ⟨d, rfl⟩ : ∃ d', d = d' + 1 := ⟨d - 1, by omega⟩
  have lm : Lil (m : Int) := .of64 (by omega) (by omega)
  have mm := opB_mul lm lm
  have mp : 0 < (m : Int) * m := Int.mul_pos (by omega) (by omega)
  have d1 : ∀ i : Int, opB .mod (.int i) (.int m) = some (.int (i % m)) := fun i => opB_mod (by omega)
  have d2 : ∀ i : Int, opB .mod (.int i) (.int ((m : Int) * m)) = some (.int (i % ((m : Int) * m))) := fun i => opB_mod mp
  have d3 : ∀ i : Int, opB .fdiv (.int i) (.int m) = some (.int (i / m)) := fun i => opB_fdiv (by omega) (by omega)
  have v1 : opB .mul (.int f.2.1) (.int m) = some (.int (f.2.1 * m)) := opB_mul (lilB hb.2.1 (by omega) (by omega)) lm
  have v2 : opB .mul (.int f.2.2) (.int m) = some (.int (f.2.2 * m)) := opB_mul (lilB hb.2.2 (by omega) (by omega)) lm
  have r1 := trO_m m rows
  have r2 := trO_rows m rows
  have lO : ∀ s : Sta, s.deref (trO m rows) = trO m rows := fun s => rfl
  have ob : ∀ (y : Tr) (s2 : Sta), kIdx3 y s2 (trO m rows) = Rs.of (idxT (trO m rows) (s2.deref y)) s2 := fun y s2 => rfl
  have ol : ∀ (l : List Tr) (y : Tr) (s2 : Sta), kIdx3 y s2 (.lst l) = Rs.of (idxT (.lst l) (s2.deref y)) s2 := fun l y s2 => rfl
  have ix : idxT (.lst (rows.map trRow)) (.int (i : Int)) = some (.tup [.int r.a, .int r.b, .int r.f, .str "right"]) := by
    rw [idx_row hr]
    show some (Tr.tup [.int r.a, .int r.b, .int r.f, .str (sd r.s)]) = _
    rw [hs]
    rfl
  have cl : opC2 .eq (.str "right") (.str "left") = some false := cN (by decide +kernel)
  have hi : ∀ l : List Tr, items 0 [.tup l] = some l := fun l => rfl
  have q2 := tF_eq f
  have fb : ∀ e ∈ f.1.reverse, e.1.1.natAbs < 2 ^ B ∧ e.1.2.natAbs < 2 ^ B := fun e he => hb.1 e (List.mem_reverse.mp he)
  rw [callS (fn := f_law_passed) rfl rfl rfl]
  rcases hw with rfl | rfl
  · have e0 := fun x0 x1 x2 x3 x7 x8 x9 x10 x11 x12 => comp_each (f := compF (.tp [.tp [.nm 13, .nm 14], .nm 15]) [x0, x1, x2, x3, .val (.int m), .val (.int r.a), .val (.int r.b), x7, x8, x9, x10, x11, x12, .none, .none, .none] (kCond gc (callF gc 64 fs d) .nul) (kElt gc (callF gc 64 fs d) e_law_passed_0)) (tr := G17.trP) (t2 := fun e : It => .bl (!itOk m r.a r.b r.f 1 e)) (mem := mem) f.1.reverse (fun z _ => by
      have c := eqT_pair (z.1.1 % m) (z.1.2 % m) r.a r.b
      have c2 : opC2 .ne (.tup [.int (z.1.1 % m), .int (z.1.2 % m)]) (.tup [.int r.a, .int r.b]) = some (!itOk m r.a r.b r.f 1 z) := by
        rw [opC2_neT, c]
        unfold itOk
        rw [if_pos rfl]
        simp
      generalize itOk m r.a r.b r.f 1 z = b at *
      simp [compF, asg, asgs, G17.trP, e_law_passed_0, d1, c2, isNul, -opC2_neT]) (by simp; omega)
    have e1 := fun x0 x1 x2 x3 x5 x6 x8 x9 x10 x11 x12 => comp_each (f := compF (.tp [.tp [.nm 13, .nm 14], .nm 15]) [x0, x1, x2, x3, .val (.int m), x5, x6, .val (.int r.f), x8, x9, x10, x11, x12, .none, .none, .none] (kCond gc (callF gc 64 fs d) .nul) (kElt gc (callF gc 64 fs d) e_law_passed_1)) (tr := G17.trP) (t2 := fun e : It => G17.trP (itCar m r.a r.b r.f 1 e)) (mem := mem) f.1.reverse (fun z hz => by
      obtain ⟨b1, b2⟩ := fb z hz
      have q1 : (z.1.1 / (m : Int)).natAbs ≤ z.1.1.natAbs := Int.natAbs_ediv_le_natAbs ..
      have u1 : opB .mul (.int (z.1.1 / (m : Int))) (.int m) = some (.int (z.1.1 / (m : Int) * m)) := opB_mul (lilB (B := B) (by omega) (by omega) (by omega)) lm
      have u2 : opB .mul (.int (z.1.1 / (m : Int) * m)) (.int m) = some (.int (z.1.1 / (m : Int) * m * m)) := opB_mul (lilB (B := B + 4) (by
        rw [Int.natAbs_mul, Int.natAbs_natCast, Nat.pow_add]
        have : (z.1.1 / (m : Int)).natAbs * m ≤ (z.1.1 / (m : Int)).natAbs * 9 := Nat.mul_le_mul_left _ h9
        omega) (by omega) (by omega)) lm
      have q : itCar m r.a r.b r.f 1 z = ((z.1.1 / (m : Int) * m * m + r.f, z.1.2 / (m : Int)), z.2) := by unfold itCar; rw [if_pos rfl, Int.mul_assoc]
      rw [q]
      simp [compF, asg, asgs, G17.trP, e_law_passed_1, d3, u1, u2, isNul]) (by simp; omega)
    have an := anyB (fun e : It => !itOk m r.a r.b r.f 1 e) f.1.reverse
    rw [any_all] at an
    unfold passR okR
    rw [if_pos rfl]
    by_cases c1 : f.2.1 % (m : Int) = 0
    · by_cases c2 : f.2.2 % (m : Int) = 0
      · rw [decide_eq_true ⟨c1, c2⟩, Bool.true_and]
        cases ha : f.1.all (itOk m r.a r.b r.f 1) with
        | true =>
          rw [ha] at an
          rw [if_pos rfl]
          have q3 : optF (some (carR m r.a r.b r.f 1 f)) = tF (carR m r.a r.b r.f 1 f) := rfl
          have g1 : (carR m r.a r.b r.f 1 f).2.1 = f.2.1 * m := by unfold carR; rw [if_pos rfl]
          have g2 : (carR m r.a r.b r.f 1 f).2.2 = f.2.2 / (m : Int) := by unfold carR; rw [if_pos rfl]
          rw [q3, tF_car, g1, g2, q2]
          clear ha
          generalize (f.1.reverse.map fun e : It => Tr.bl (!itOk m r.a r.b r.f 1 e)) = BB at *
          generalize (f.1.reverse.map fun e => G17.trP (itCar m r.a r.b r.f 1 e)) = R at *
          generalize f.1.reverse.map G17.trP = F0 at *
          generalize rows.map trRow = RR at *
          generalize trO m rows = T at *
          generalize callF gc 64 fs d = cf at *
          simp [f_law_passed, b_law_passed, r1, r2, lO, ob, ol, ix, cl, d1, d3, v1, v2, c1, c2, hi, e0, e1, an, asg, asgs, wipeE, Slot.lock, -kIdx3, -opC2_eqS, -b_any]
        | false =>
          rw [ha] at an
          rw [if_neg (by decide), q2]
          clear ha
          generalize (f.1.reverse.map fun e : It => Tr.bl (!itOk m r.a r.b r.f 1 e)) = BB at *
          generalize f.1.reverse.map G17.trP = F0 at *
          generalize rows.map trRow = RR at *
          generalize trO m rows = T at *
          generalize callF gc 64 fs d = cf at *
          simp [f_law_passed, b_law_passed, r1, r2, lO, ob, ol, ix, cl, d1, d3, c1, c2, hi, e0, an, asg, asgs, wipeE, Slot.lock, optF, -kIdx3, -opC2_eqS, -b_any]
      · rw [decide_eq_false (fun x => c2 x.2), Bool.false_and, if_neg (by decide), q2]
        clear e0 e1 an
        generalize f.1.reverse.map G17.trP = F0 at *
        generalize rows.map trRow = RR at *
        generalize trO m rows = T at *
        generalize callF gc 64 fs d = cf at *
        simp [f_law_passed, b_law_passed, r1, r2, lO, ob, ol, ix, cl, d1, d3, c1, c2, asg, asgs, optF, -kIdx3, -opC2_eqS, -b_any]
    · rw [decide_eq_false (fun x => c1 x.1), Bool.false_and, if_neg (by decide), q2]
      clear e0 e1 an
      generalize f.1.reverse.map G17.trP = F0 at *
      generalize rows.map trRow = RR at *
      generalize trO m rows = T at *
      generalize callF gc 64 fs d = cf at *
      simp [f_law_passed, b_law_passed, r1, r2, lO, ob, ol, ix, cl, d1, d3, c1, asg, asgs, optF, -kIdx3, -opC2_eqS, -b_any]
  · have e0 := fun x0 x1 x2 x3 x5 x6 x8 x9 x10 x11 x12 => comp_each (f := compF (.tp [.tp [.nm 13, .nm 14], .nm 15]) [x0, x1, x2, x3, .val (.int m), x5, x6, .val (.int r.f), x8, x9, x10, x11, x12, .none, .none, .none] (kCond gc (callF gc 64 fs d) .nul) (kElt gc (callF gc 64 fs d) e_law_passed_2)) (tr := G17.trP) (t2 := fun e : It => .bl (!itOk m r.a r.b r.f (-1) e)) (mem := mem) f.1.reverse (fun z _ => by
      have q : itOk m r.a r.b r.f (-1) z = decide ((z.1.1 - r.f) % ((m : Int) * m) = 0) := by unfold itOk; rw [if_neg (by omega)]
      rw [q]
      generalize (m : Int) * m = M2 at *
      simp [compF, asg, asgs, G17.trP, e_law_passed_2, mm, d2, isNul]) (by simp; omega)
    have an := anyB (fun e : It => !itOk m r.a r.b r.f (-1) e) f.1.reverse
    rw [any_all] at an
    have hne : ¬ ((-1 : Int) = 1) := by omega
    unfold passR okR
    simp only [if_neg hne]
    by_cases c1 : f.2.1 % ((m : Int) * m) = 0
    · rw [decide_eq_true c1, Bool.true_and]
      cases ha : f.1.all (itOk m r.a r.b r.f (-1)) with
      | true =>
        rw [ha] at an
        rw [if_pos rfl]
        have hz' : ∀ z ∈ f.1.reverse, (z.1.1 - (r.f : Int)) % ((m : Int) * m) = 0 := fun z hz => by
          have := List.all_eq_true.mp ha z (List.mem_reverse.mp hz)
          unfold itOk at this
          rw [if_neg (by omega)] at this
          simpa using this
        have e1 := fun x0 x1 x2 x3 x8 x9 x10 x11 x12 => comp_each (f := compF (.tp [.tp [.nm 13, .nm 14], .nm 15]) [x0, x1, x2, x3, .val (.int m), .val (.int r.a), .val (.int r.b), .val (.int r.f), x8, x9, x10, x11, x12, .none, .none, .none] (kCond gc (callF gc 64 fs d) .nul) (kElt gc (callF gc 64 fs d) e_law_passed_3)) (tr := G17.trP) (t2 := fun e : It => G17.trP (itCar m r.a r.b r.f (-1) e)) (mem := mem) f.1.reverse (fun z hz => by
          obtain ⟨b1, b2⟩ := fb z hz
          have u1 : opB .mul (.int z.1.2) (.int m) = some (.int (z.1.2 * m)) := opB_mul (lilB b2 (by omega) (by omega)) lm
          have q : itCar m r.a r.b r.f (-1) z = (((z.1.1 - r.f) / (m : Int) + r.a, z.1.2 * m + r.b), z.2) := by
            unfold itCar
            rw [if_neg (by omega), div_two (by omega) (hz' z hz)]
          rw [q]
          simp [compF, asg, asgs, G17.trP, e_law_passed_3, d3, u1, isNul]) (by simp; omega)
        have q3 : optF (some (carR m r.a r.b r.f (-1) f)) = tF (carR m r.a r.b r.f (-1) f) := rfl
        have g1 : (carR m r.a r.b r.f (-1) f).2.1 = f.2.1 / (m : Int) := by unfold carR; rw [if_neg (by omega)]
        have g2 : (carR m r.a r.b r.f (-1) f).2.2 = f.2.2 * m := by unfold carR; rw [if_neg (by omega)]
        rw [q3, tF_car, g1, g2, q2]
        clear ha hz'
        generalize (f.1.reverse.map fun e : It => Tr.bl (!itOk m r.a r.b r.f (-1) e)) = BB at *
        generalize (f.1.reverse.map fun e => G17.trP (itCar m r.a r.b r.f (-1) e)) = R at *
        generalize f.1.reverse.map G17.trP = F0 at *
        generalize rows.map trRow = RR at *
        generalize trO m rows = T at *
        generalize callF gc 64 fs d = cf at *
        generalize (m : Int) * m = M2 at *
        simp [f_law_passed, b_law_passed, r1, r2, lO, ob, ol, ix, cl, mm, d1, d2, d3, v1, v2, c1, hi, e0, e1, an, asg, asgs, wipeE, Slot.lock, -kIdx3, -opC2_eqS, -b_any]
      | false =>
        rw [ha] at an
        rw [if_neg (by decide), q2]
        clear ha
        generalize (f.1.reverse.map fun e : It => Tr.bl (!itOk m r.a r.b r.f (-1) e)) = BB at *
        generalize f.1.reverse.map G17.trP = F0 at *
        generalize rows.map trRow = RR at *
        generalize trO m rows = T at *
        generalize callF gc 64 fs d = cf at *
        generalize (m : Int) * m = M2 at *
        simp [f_law_passed, b_law_passed, r1, r2, lO, ob, ol, ix, cl, mm, d1, d2, d3, c1, hi, e0, an, asg, asgs, wipeE, Slot.lock, optF, -kIdx3, -opC2_eqS, -b_any]
    · rw [decide_eq_false c1, Bool.false_and, if_neg (by decide), q2]
      clear e0 an
      generalize f.1.reverse.map G17.trP = F0 at *
      generalize rows.map trRow = RR at *
      generalize trO m rows = T at *
      generalize callF gc 64 fs d = cf at *
      generalize (m : Int) * m = M2 at *
      simp [f_law_passed, b_law_passed, r1, r2, lO, ob, ol, ix, cl, mm, d1, d2, d3, c1, asg, asgs, optF, -kIdx3, -opC2_eqS, -b_any]
theorem law_passed {d m i B : Nat} {mem : List Ob} {rows : List Row} {f : Fo} {w : Int} (hd : 2 ≤ d) (hM : MOk m rows) (hi : i < rows.length) (hl : f.1.length ≤ 40000) (hw : w = 1 ∨ w = -1) (hB : 8 ≤ B) (hB2 : B ≤ 200000) (hb : FB B f) :
    callF gc 64 fs d n_law_passed [trO m rows, .int i, tF f, .int w] mem = some (optF (passF m rows i f w), mem) := by
  have lo := hM.lo
  have h9 := hM.hi
  have hr : rows[i]? = some rows[i] := List.getElem?_eq_getElem hi
  have sm := (hM.ok _ (List.getElem_mem hi)).small hM.hi
  unfold passF
  rw [hr]
  dsimp only
  generalize rows[i] = r at *
  cases hs : r.s with
  | true =>
    rw [if_pos rfl]
    exact law_passR (by omega) lo h9 sm hr hs hl hw hB hB2 hb
  | false =>
    rw [if_neg (by decide)]
    obtain ⟨d, rfl⟩ : ∃ d', d = d' + 1 := ⟨d - 1, by omega⟩
    obtain ⟨r', hr'⟩ : ∃ r' : Row, r' = { a := r.b, b := r.a, f := r.f, s := true } := ⟨_, rfl⟩
    have e1 := law_passR (d := d) (mem := mem) (rows := [r']) (i := 0) (r := r') (f := turned f) (w := w) (m := m) (by omega) lo h9 (by rw [hr']; exact ⟨sm.2.1, sm.1, sm.2.2⟩) rfl (by rw [hr']) (by rw [turned_len]; exact hl) hw hB hB2 hb.turned
    have e2 := law_turned (d := d) (mem := mem) (f := f) (by omega) (by omega)
    have r1 := trO_m m rows
    have r2 := trO_rows m rows
    have lO : ∀ s : Sta, s.deref (trO m rows) = trO m rows := fun s => rfl
    have ob : ∀ (y : Tr) (s2 : Sta), kIdx3 y s2 (trO m rows) = Rs.of (idxT (trO m rows) (s2.deref y)) s2 := fun y s2 => rfl
    have ol : ∀ (l : List Tr) (y : Tr) (s2 : Sta), kIdx3 y s2 (.lst l) = Rs.of (idxT (.lst l) (s2.deref y)) s2 := fun l y s2 => rfl
    have ix : idxT (.lst (rows.map trRow)) (.int (i : Int)) = some (.tup [.int r.a, .int r.b, .int r.f, .str "left"]) := by
      rw [idx_row hr]
      show some (Tr.tup [.int r.a, .int r.b, .int r.f, .str (sd r.s)]) = _
      rw [hs]
      rfl
    have cl : opC2 .eq (.str "left") (.str "left") = some true := cS rfl
    have tO : trO m [r'] = .dk [.inr "m", .inr "rows"] [.int m, .lst [.tup [.int r.b, .int r.a, .int r.f, .str "right"]]] := by rw [hr']; rfl
    have a' : r'.a = r.b := by rw [hr']
    have b' : r'.b = r.a := by rw [hr']
    have f' : r'.f = r.f := by rw [hr']
    rw [tO, a', b', f'] at e1
    have hk : ¬ (("m" : Str) = "rows") := by decide +kernel
    have pT : (tF (turned f)).pure = true := rfl
    have pF : (tF f).pure = true := rfl
    rw [show ((0 : Nat) : Int) = 0 from rfl] at e1
    rw [callS (fn := f_law_passed) rfl rfl rfl]
    cases hp : passR m r.b r.a r.f w (turned f) with
    | none =>
      rw [hp] at e1
      have e1' : callF gc 64 fs d n_law_passed [.dk [.inr "m", .inr "rows"] [.int m, .lst [.tup [.int r.b, .int r.a, .int r.f, .str "right"]]], .int 0, tF (turned f), .int w] mem = some (.non, mem) := e1
      clear e1 tO
      generalize tF (turned f) = R at *
      generalize tF f = F at *
      generalize rows.map trRow = RR at *
      generalize trO m rows = T at *
      generalize callF gc 64 fs d = cf at *
      simp [f_law_passed, b_law_passed, r1, r2, lO, ob, ol, ix, cl, e1', e2, pT, pF, hk, dspT, keyT, optF, asg, asgs, -kIdx3, -opC2_eqS]
    | some g =>
      have gl : g.1.length ≤ 100000 := by
        unfold passR at hp
        split at hp
        · cases hp; rw [carR_len, turned_len]; omega
        · cases hp
      have e3 := law_turned (d := d) (mem := mem) (f := g) (by omega) gl
      rw [hp] at e1
      have e1' : callF gc 64 fs d n_law_passed [.dk [.inr "m", .inr "rows"] [.int m, .lst [.tup [.int r.b, .int r.a, .int r.f, .str "right"]]], .int 0, tF (turned f), .int w] mem = some (tF g, mem) := e1
      have cg : opC2 .isN (tF g) .non = some false := rfl
      have pg : (tF g).pure = true := rfl
      have pg2 : (tF (turned g)).pure = true := rfl
      have dg : ∀ s : Sta, s.deref (tF g) = tF g := fun s => rfl
      have q : optF ((some g).map turned) = tF (turned g) := rfl
      rw [q]
      clear e1 tO q
      generalize tF (turned g) = R3 at *
      generalize tF (turned f) = R at *
      generalize tF f = F at *
      generalize tF g = GG at *
      generalize rows.map trRow = RR at *
      generalize trO m rows = T at *
      generalize callF gc 64 fs d = cf at *
      simp [f_law_passed, b_law_passed, r1, r2, lO, ob, ol, ix, cl, e1', e2, e3, cg, pg, pg2, dg, pT, pF, hk, dspT, keyT, asg, asgs, -kIdx3, -opC2_eqS]
end G
/-! Towers. -/
namespace G
open Ev PySem L2 G17
abbrev Tw := List (Fo × Nat × Int) × Fo
def stepT (m : Nat) (rows : List Row) (T : Tw) : Sy → Tw
  | .g l k => (T.1, step T.2 (l, k))
  | .h i w => match T.1 with
    | (f, j, v) :: rest => if j = i ∧ v = -w then (match passF m rows i T.2 w with
      | some g => (rest, mul f g)
      | none => ((T.2, i, w) :: T.1, E0)) else ((T.2, i, w) :: T.1, E0)
    | [] => ([(T.2, i, w)], E0)
def runT (m : Nat) (rows : List Row) (T : Tw) (w : List Sy) : Tw := w.foldl (stepT m rows) T
def twA (st : List (Fo × Nat × Int)) : List Tr := st.reverse.flatMap fun x => [tF x.1, trS (hL x.2.1, x.2.2)]
def twL (T : Tw) : List Tr := twA T.1 ++ [tF T.2]
theorem twA_cons (x : Fo × Nat × Int) (st : List (Fo × Nat × Int)) : twA (x :: st) = twA st ++ [tF x.1, trS (hL x.2.1, x.2.2)] := by
  unfold twA
  rw [List.reverse_cons, List.flatMap_append]
  simp
theorem twA_len (st : List (Fo × Nat × Int)) : (twA st).length = 2 * st.length := by
  induction st with
  | nil => rfl
  | cons x st ih => rw [twA_cons, List.length_append, ih, List.length_cons]; simp; omega
theorem twL_len (T : Tw) : (twL T).length = 2 * T.1.length + 1 := by unfold twL; rw [List.length_append, twA_len]; rfl
theorem twL_last (T : Tw) : (twL T).getLast? = some (tF T.2) := by unfold twL; simp
theorem ix_last {α : Type} (B : List α) (y : α) : ixN (B ++ [y]).length (-1) = some B.length := by
  unfold ixN
  simp
  omega
theorem set_last {α : Type} (B : List α) (y t : α) : (B ++ [y]).set B.length t = B ++ [t] := by
  rw [List.set_append_right _ _ (Nat.le_refl _)]
  simp
theorem at_two (A : List Tr) (x y : Tr) : idxT (.lst (A ++ [x, y])) (.int (-2)) = some x := by
  show atI (A ++ [x, y]) (-2) = _
  unfold atI
  have : (A ++ [x, y]).length = A.length + 2 := by simp
  simp [ixN, this]
  rw [if_pos (by omega)]
  have e : ((-2 : Int) + ((A.length : Int) + 2)).toNat = A.length := by omega
  rw [e]
  simp
theorem cut_two (A : List Tr) (x y : Tr) : slT (.lst (A ++ [x, y])) none (some (-2)) = some (.lst A) := by
  show some (Tr.lst (cutT (A ++ [x, y]) none (some (-2)))) = _
  unfold cutT
  have e : HT.sIx (A ++ [x, y]).length (A ++ [x, y]).length (some (-2)) = A.length := by
    simp [HT.sIx]
    omega
  rw [e]
  show some (Tr.lst (((A ++ [x, y]).drop 0).take (A.length - 0))) = _
  simp
theorem twL_split (f : Fo) (j : Nat) (v : Int) (rest : List (Fo × Nat × Int)) (top : Fo) : twL ((f, j, v) :: rest, top) = twL (rest, f) ++ [trS (hL j, v), tF top] := by
  unfold twL
  dsimp only
  rw [twA_cons]
  simp
theorem forGo_cont {tg : Tg} {f : Sta → Rs Fl} {x : Tr} {xs : List Tr} {s s1 : Sta} {env : List Slot} (h : asg tg x s.env = some env) (h2 : f ⟨env, s.mem⟩ = .ok .cont s1) : forGo tg f (x :: xs) s = forGo tg f xs s1 := by
  simp only [forGo, h, h2]
structure TOk (B n k : Nat) (T : Tw) : Prop where
  red : Red T.2.1
  fb : FB B T.2
  st : ∀ x ∈ T.1, Red x.1.1 ∧ FB B x.1 ∧ x.2.1 < k ∧ (x.2.2 = 1 ∨ x.2.2 = -1)
  len : T.2.1.length + (T.1.map fun x => x.1.1.length).sum ≤ n
theorem E0_red : Red E0.1 := trivial
theorem E0_fb (B : Nat) : FB B E0 := ⟨(by intro e he; cases he), Nat.pow_pos (by omega), Nat.pow_pos (by omega)⟩
theorem push_mem {p : Int × Int} {k : Int} {s : List It} {e : It} (h : e ∈ push p k s) : e.1 = p ∨ e ∈ s := by
  cases s with
  | nil =>
    rw [push_nil] at h
    split at h
    · cases h
    · rw [List.mem_singleton.mp h]; exact .inl rfl
  | cons x r =>
    rw [push_cons] at h
    split at h
    · split at h
      · exact .inr (List.mem_cons_of_mem _ h)
      · rcases List.mem_cons.mp h with rfl | h
        · exact .inl rfl
        · exact .inr (List.mem_cons_of_mem _ h)
    · split at h
      · exact .inr h
      · rcases List.mem_cons.mp h with rfl | h
        · exact .inl rfl
        · exact .inr h
theorem cat_mem {s : List It} {e : It} : ∀ {r : List It}, e ∈ cat s r → e ∈ s ∨ ∃ x ∈ r, x.1 = e.1
  | [], h => .inl h
  | x :: r, h => by
    rw [cat_cons] at h
    rcases push_mem h with h | h
    · exact .inr ⟨x, List.mem_cons_self .., h.symm⟩
    · rcases cat_mem h with h | ⟨y, hy, h⟩
      · exact .inl h
      · exact .inr ⟨y, List.mem_cons_of_mem _ hy, h⟩
theorem cat_len (s : List It) : ∀ r : List It, (cat s r).length ≤ s.length + r.length
  | [] => by simp [cat_nil]
  | x :: r => by
    rw [cat_cons, List.length_cons]
    have := push_len x.1 x.2 (cat s r)
    have := cat_len s r
    omega
theorem mul_len (f g : Fo) : (mul f g).1.length ≤ f.1.length + g.1.length := by
  have := cat_len f.1 (shf f.2.1 f.2.2 g.1)
  have e : (shf f.2.1 f.2.2 g.1).length = g.1.length := by simp [shf]
  unfold mul
  dsimp only
  omega
theorem mul_fb {B : Nat} {f g : Fo} (hf : FB B f) (hg : FB B g) : FB (B + 1) (mul f g) := by
  have p : 2 ^ (B + 1) = 2 ^ B * 2 := Nat.pow_succ ..
  have f1 := hf.2.1
  have f2 := hf.2.2
  have g1 := hg.2.1
  have g2 := hg.2.2
  refine ⟨fun e he => ?_, ?_, ?_⟩
  · rcases cat_mem he with h | ⟨x, hx, h⟩
    · have := hf.1 e h
      omega
    · obtain ⟨y, hy, rfl⟩ := List.mem_map.mp hx
      have := hg.1 y hy
      rw [← h]
      dsimp only
      omega
  · show (f.2.1 + g.2.1).natAbs < _
    omega
  · show (f.2.2 + g.2.2).natAbs < _
    omega
theorem mul_red {f g : Fo} (hf : Red f.1) : Red (mul f g).1 := cat_red hf _
theorem step_fb {B : Nat} {f : Fo} {l : Le} {k : Int} (hf : FB B f) (hk : k.natAbs < 2 ^ B) : FB (B + 1) (step f (l, k)) := by
  have p : 2 ^ (B + 1) = 2 ^ B * 2 := Nat.pow_succ ..
  obtain ⟨s, a, b⟩ := f
  obtain ⟨h1, h2, h3⟩ := hf
  dsimp only at h2 h3
  cases l with
  | x => exact ⟨fun e he => by have := h1 e he; omega, by show (a + k).natAbs < _; omega, by show b.natAbs < _; omega⟩
  | y => exact ⟨fun e he => by have := h1 e he; omega, by show a.natAbs < _; omega, by show (b + k).natAbs < _; omega⟩
  | t =>
    refine ⟨fun e he => ?_, by show a.natAbs < _; omega, by show b.natAbs < _; omega⟩
    rcases push_mem (show e ∈ push (-a, -b) k s from he) with h | h
    · rw [h]; dsimp only; omega
    · have := h1 e h; omega
theorem step_len (f : Fo) (e : Le × Int) : (step f e).1.length ≤ f.1.length + 1 := by
  obtain ⟨s, a, b⟩ := f
  obtain ⟨l, k⟩ := e
  cases l with
  | x => show s.length ≤ s.length + 1; omega
  | y => show s.length ≤ s.length + 1; omega
  | t => exact push_len _ _ _
theorem carR_fb {m a b fg B : Nat} {w : Int} {f : Fo} (h9 : m ≤ 9) (ha : a < 100) (hb : b < 100) (hfg : fg < 100) (hB : 8 ≤ B) (hf : FB B f) : FB (B + 9) (carR m a b fg w f) := by
  have p : 2 ^ (B + 9) = 2 ^ B * 512 := by rw [Nat.pow_add]
  have p8 : 2 ^ 8 ≤ 2 ^ B := Nat.pow_le_pow_right (by omega) hB
  have mm : (m : Int) * m = ((m * m : Nat) : Int) := by simp
  have mm2 : m * m ≤ 81 := Nat.mul_le_mul h9 h9
  have mu : ∀ (x : Int) (c d : Nat), c ≤ d → (x * (c : Int)).natAbs ≤ x.natAbs * d := fun x c d h => by
    rw [Int.natAbs_mul, Int.natAbs_natCast]
    exact Nat.mul_le_mul_left _ h
  have dv : ∀ (x : Int) (c : Nat), (x / (c : Int)).natAbs ≤ x.natAbs := fun x c => Int.natAbs_ediv_le_natAbs ..
  refine ⟨fun e he => ?_, ?_, ?_⟩
  · obtain ⟨x, hx, rfl⟩ := List.mem_map.mp he
    obtain ⟨x1, x2⟩ := hf.1 x hx
    unfold itCar
    rw [mm]
    have a1 := mu (x.1.1 / (m : Int)) (m * m) 81 mm2
    have a2 := dv x.1.1 m
    have a3 := dv x.1.2 m
    have a4 := mu ((x.1.1 - (fg : Int)) / ((m * m : Nat) : Int)) m 9 h9
    have a5 := dv (x.1.1 - (fg : Int)) (m * m)
    have a6 := mu x.1.2 m 9 h9
    split
    · dsimp only
      constructor <;> omega
    · dsimp only
      constructor <;> omega
  · have a1 := mu f.2.1 m 9 h9
    have a2 := dv f.2.1 m
    have f1 := hf.2.1
    unfold carR
    dsimp only
    split <;> (dsimp only; omega)
  · have a1 := mu f.2.2 m 9 h9
    have a2 := dv f.2.2 m
    have f1 := hf.2.2
    unfold carR
    dsimp only
    split <;> (dsimp only; omega)
theorem passF_ok {m i B : Nat} {rows : List Row} {f g : Fo} {w : Int} (hM : MOk m rows) (hi : i < rows.length) (hB : 8 ≤ B) (hf : FB B f) (h : passF m rows i f w = some g) : FB (B + 9) g ∧ g.1.length = f.1.length := by
  have sm := (hM.ok _ (List.getElem_mem hi)).small hM.hi
  rw [passF_eq (List.getElem?_eq_getElem hi)] at h
  generalize rows[i] = r at *
  split at h
  · injection h with h
    subst h
    cases r.s with
    | true => exact ⟨carR_fb hM.hi sm.1 sm.2.1 sm.2.2 hB hf, by rw [if_pos rfl, carR_len]⟩
    | false =>
      rw [if_neg (by decide)]
      exact ⟨(carR_fb hM.hi sm.2.1 sm.1 sm.2.2 hB hf.turned).turned, by rw [turned_len, carR_len, turned_len]⟩
  · cases h
theorem stepT_ok {m B n : Nat} {rows : List Row} {T : Tw} {s : Sy} (hM : MOk m rows) (hB : 8 ≤ B) (hT : TOk B n rows.length T) (hs : s.ok rows.length) (hk : ∀ l k, s = .g l k → k.natAbs < 2 ^ B) : TOk (B + 10) (n + 1) rows.length (stepT m rows T s) := by
  obtain ⟨h1, h2, h3, h4⟩ := hT
  have up : ∀ {f : Fo}, FB B f → FB (B + 10) f := fun h => h.mono (by omega)
  cases s with
  | g l k =>
    refine ⟨step_red h1, (step_fb h2 (hk l k rfl)).mono (by omega), fun x hx => ?_, ?_⟩
    · obtain ⟨a, b, c⟩ := h3 x hx; exact ⟨a, up b, c⟩
    · have := step_len T.2 (l, k)
      show (step T.2 (l, k)).1.length + (T.1.map fun x => x.1.1.length).sum ≤ n + 1
      omega
  | h i w =>
    have pushed : TOk (B + 10) (n + 1) rows.length ((T.2, i, w) :: T.1, E0) := by
      refine ⟨trivial, E0_fb _, fun x hx => ?_, ?_⟩
      · rcases List.mem_cons.mp hx with rfl | hx
        · exact ⟨h1, up h2, hs.1, hs.2⟩
        · obtain ⟨a, b, c⟩ := h3 x hx; exact ⟨a, up b, c⟩
      · simp only [List.map_cons, List.sum_cons]
        show 0 + (T.2.1.length + (T.1.map fun x => x.1.1.length).sum) ≤ n + 1
        omega
    obtain ⟨st, top⟩ := T
    dsimp only at *
    cases st with
    | nil => exact pushed
    | cons e rest =>
      obtain ⟨f, j, v⟩ := e
      unfold stepT
      dsimp only
      split
      · cases hp : passF m rows i top w with
        | none => exact pushed
        | some g =>
          obtain ⟨a, b, c⟩ := h3 (f, j, v) (List.mem_cons_self ..)
          obtain ⟨gb, gl⟩ := passF_ok hM hs.1 hB h2 hp
          refine ⟨mul_red a, (mul_fb (b.mono (by omega)) gb).mono (by omega), fun x hx => ?_, ?_⟩
          · obtain ⟨a, b, c⟩ := h3 x (List.mem_cons_of_mem _ hx); exact ⟨a, up b, c⟩
          · have := mul_len f g
            simp only [List.map_cons, List.sum_cons] at h4
            show (mul f g).1.length + (rest.map fun x => x.1.1.length).sum ≤ n + 1
            omega
      · exact pushed
end G
/-! Towers: the program's, the law's own. -/
namespace G
open Ev PySem L2 G17
theorem eq_hand {i j : Nat} {v w : Int} (hi : i < 100) (hj : j < 100) : opC2 .eq (trS (hL j, v)) (.tup [.str (hL i), .int w]) = some (decide (j = i ∧ v = w)) := by
  show eqT (.tup [.str (hL j), .int v]) (.tup [.str (hL i), .int w]) = _
  rw [eq_S (a := (hL j, v)) (b := (hL i, w)) (str_ok j hj) (str_ok i hi)]
  congr 1
  rw [Bool.eq_iff_iff]
  simp only [decide_eq_true_eq, Prod.mk.injEq]
  exact ⟨fun ⟨a, b⟩ => ⟨hL_inj hj hi a, b⟩, fun ⟨a, b⟩ => ⟨by rw [a], b⟩⟩
theorem tow_step {d m B n : Nat} {mem : List Ob} {rows : List Row} {x1 s5 : Slot} {T : Tw} {s : Sy} (hd : 3 ≤ d) (hM : MOk m rows) (hT : TOk B n rows.length T) (hs : s.ok rows.length) (hB : 8 ≤ B) (hB2 : B ≤ 200000) (hn : n ≤ 40000) (hst : T.1.length ≤ 40000) : ∃ fl t5,
    exSs gc (callF gc 64 fs d) 64 l_tower_of_0 ⟨[.val (trM m rows), x1, .own (.lst (twL T)), .val (.str s.syl.1), .val (.int s.syl.2), s5], mem⟩ = .ok fl ⟨[.val (trM m rows), x1, .own (.lst (twL (stepT m rows T s))), .val (.str s.syl.1), .val (.int s.syl.2), t5], mem⟩ ∧ (fl = .next ∨ fl = .cont) := by
  have ol : ∀ (l : List Tr) (y : Tr) (s2 : Sta), kIdx3 y s2 (.lst l) = Rs.of (idxT (.lst l) (s2.deref y)) s2 := fun l y s2 => rfl
  have len := twL_len T
  have last := twL_last T
  have pM : (trM m rows).pure = true := rfl
  have dM : ∀ s : Sta, s.deref (trM m rows) = trM m rows := fun s => rfl
  have hl80 := hM.len
  have dF : ∀ (f : Fo) (s : Sta), s.deref (tF f) = tF f := fun f s => rfl
  have pF : ∀ f : Fo, (tF f).pure = true := fun f => rfl
  have tl : T.2.1.length ≤ 40000 := by have := hT.len; omega
  cases s with
  | g l k =>
    have g1 := in_gr l.s
    rw [le_gr] at g1
    have e1 := form_one (d := d) (mem := mem) (l := l) (k := k) (by omega)
    have sl1 : (step E0 (l, k)).1.length ≤ 40000 := by have := step_len E0 (l, k); have : E0.1.length = 0 := rfl; omega
    have e2 := times_of (d := d) (mem := mem) (f := T.2) (g := step E0 (l, k)) (by omega) hT.red tl sl1
    rw [mul_one l k hT.red] at e2
    obtain ⟨st, top⟩ := T
    have ix : ixN (twL (st, top)).length (-1) = some (twA st).length := ix_last (twA st) (tF top)
    have se : ∀ t, (twL (st, top)).set (twA st).length t = twA st ++ [t] := fun t => set_last (twA st) (tF top) t
    refine ⟨.cont, .val .non, ?_, .inr rfl⟩
    have q : twL (stepT m rows (st, top) (.g l k)) = twA st ++ [tF (step top (l, k))] := rfl
    have s1 : (Sy.g l k).syl.1 = l.s := rfl
    have s2 : (Sy.g l k).syl.2 = k := rfl
    rw [q, s1, s2]
    dsimp only at e2 last
    have p1 := pF top
    have p2 := pF (step top (l, k))
    have p3 := pF (step E0 (l, k))
    have d1 := dF top
    clear pF dF len
    generalize twL (st, top) = F at *
    generalize twA st = A at *
    generalize tF top = T1 at *
    generalize tF (step top (l, k)) = T2 at *
    generalize tF (step E0 (l, k)) = T3 at *
    generalize l.s = z at *
    generalize trM m rows = M at *
    generalize callF gc 64 fs d = cf at *
    simp [l_tower_of_0, g1, e1, e2, ol, last, ix, se, p1, p2, p3, d1, d_own, -kIdx3, -opC2_inT]
  | h i w =>
    obtain ⟨hi, hw⟩ := hs
    have g1 := in_gr (hL i)
    rw [not_gr i (by omega)] at g1
    have e1 := hand_number (d := d) (m := mem) (by omega) (show i < 100 by omega)
    have s1 : (Sy.h i w).syl.1 = hL i := rfl
    have s2 : (Sy.h i w).syl.2 = w := rfl
    have qE : tF E0 = .tup [.tup [], .int 0, .int 0] := rfl
    have qS : trS (hL i, w) = .tup [.str (hL i), .int w] := rfl
    have push : ∀ (st : List (Fo × Nat × Int)) (top : Fo), twL ((top, i, w) :: st, E0) = twL (st, top) ++ [.tup [.str (hL i), .int w], .tup [.tup [], .int 0, .int 0]] := fun st top => by rw [twL_split, qE, qS]
    rw [s1, s2]
    obtain ⟨st, top⟩ := T
    dsimp only at last hst tl
    cases st with
    | nil =>
      refine ⟨.next, .val .non, ?_, .inl rfl⟩
      have q : twL (stepT m rows ([], top) (.h i w)) = twL ([], top) ++ [.tup [.str (hL i), .int w], .tup [.tup [], .int 0, .int 0]] := push [] top
      rw [q]
      have l1 : (twL (([] : List (Fo × Nat × Int)), top)).length = 1 := len
      clear push len
      generalize twL (([] : List (Fo × Nat × Int)), top) = F at *
      generalize hL i = z at *
      generalize trM m rows = M at *
      generalize callF gc 64 fs d = cf at *
      simp [l_tower_of_0, g1, l1, d_own, -kIdx3, -opC2_inT]
    | cons e rest =>
      obtain ⟨f, j, v⟩ := e
      obtain ⟨fr, fbb, hj, hv⟩ := hT.st (f, j, v) (List.mem_cons_self ..)
      dsimp only at fr fbb hj hv
      have c := eq_hand (i := i) (j := j) (v := v) (w := -w) (by omega) (by omega)
      have sp := twL_split f j v rest top
      have at2 := at_two (twL (rest, f)) (trS (hL j, v)) (tF top)
      rw [← sp] at at2
      have l1 : 1 < ((twL ((f, j, v) :: rest, top)).length : Int) := by rw [len]; dsimp only; rw [List.length_cons]; omega
      have l2 : (twL ((f, j, v) :: rest, top)).length + 2 ≤ 16777216 := by rw [len]; dsimp only; omega
      have pS : (trS (hL j, v)).pure = true := rfl
      have dS : ∀ s : Sta, s.deref (trS (hL j, v)) = trS (hL j, v) := fun s => rfl
      by_cases hc : j = i ∧ v = -w
      · rw [decide_eq_true hc] at c
        have e2 := passed_of (d := d) (mem := mem) (f := top) (by omega) hM hi tl hw hB hB2 hT.fb
        cases hp : passF m rows i top w with
        | none =>
          rw [hp] at e2
          have e2' : callF gc 64 fs d n_passed_of [trM m rows, .int i, tF top, .int w] mem = some (.non, mem) := e2
          have q : twL (stepT m rows ((f, j, v) :: rest, top) (.h i w)) = twL ((f, j, v) :: rest, top) ++ [.tup [.str (hL i), .int w], .tup [.tup [], .int 0, .int 0]] := by
            rw [← push]
            unfold stepT
            dsimp only
            rw [if_pos hc, hp]
          refine ⟨.next, .val .non, ?_, .inl rfl⟩
          rw [q]
          have p1 := pF top
          have d1 := dF top
          clear push len pF dF sp e2
          generalize twL ((f, j, v) :: rest, top) = F at *
          generalize trS (hL j, v) = SS at *
          generalize tF top = T1 at *
          generalize hL i = z at *
          generalize trM m rows = M at *
          generalize callF gc 64 fs d = cf at *
          simp [l_tower_of_0, g1, e1, e2', ol, last, at2, c, l1, l2, pS, dS, p1, d1, pM, d_own, -kIdx3, -opC2_inT]
        | some g =>
          rw [hp] at e2
          have e2' : callF gc 64 fs d n_passed_of [trM m rows, .int i, tF top, .int w] mem = some (tF g, mem) := e2
          obtain ⟨gb, gl⟩ := passF_ok hM hi hB hT.fb hp
          dsimp only at gl
          have fl : f.1.length ≤ 40000 := by
            have := hT.len
            simp only [List.map_cons, List.sum_cons] at this
            omega
          have e3 := times_of (d := d) (mem := mem) (f := f) (g := g) (by omega) fr fl (by omega)
          have q : twL (stepT m rows ((f, j, v) :: rest, top) (.h i w)) = twA rest ++ [tF (mul f g)] := by
            unfold stepT
            dsimp only
            rw [if_pos hc, hp]
            rfl
          have cut := cut_two (twL (rest, f)) (trS (hL j, v)) (tF top)
          rw [← sp] at cut
          have last2 : (twL (rest, f)).getLast? = some (tF f) := twL_last (rest, f)
          have ix : ixN (twL (rest, f)).length (-1) = some (twA rest).length := ix_last (twA rest) (tF f)
          have se : ∀ t, (twL (rest, f)).set (twA rest).length t = twA rest ++ [t] := fun t => set_last (twA rest) (tF f) t
          refine ⟨.next, .val (tF g), ?_, .inl rfl⟩
          rw [q]
          have cg : opC2 .isN (tF g) .non = some false := rfl
          have p1 := pF top
          have d1 := dF top
          have p2 := pF g
          have d2 := dF g
          have p3 := pF f
          have d3 := dF f
          have p4 := pF (mul f g)
          clear push len pF dF sp e2
          generalize twL ((f, j, v) :: rest, top) = F at *
          generalize twL (rest, f) = FR at *
          generalize twA rest = A at *
          generalize trS (hL j, v) = SS at *
          generalize tF (mul f g) = T4 at *
          generalize tF top = T1 at *
          generalize tF g = T2 at *
          generalize tF f = T3 at *
          generalize hL i = z at *
          generalize trM m rows = M at *
          generalize callF gc 64 fs d = cf at *
          simp [l_tower_of_0, g1, e1, e2', e3, ol, last, last2, at2, cut, ix, se, c, cg, l1, pS, dS, p1, d1, p2, d2, p3, d3, p4, pM, d_own, asInt, isNul, -kIdx3, -opC2_inT]
      · rw [decide_eq_false hc] at c
        have q : twL (stepT m rows ((f, j, v) :: rest, top) (.h i w)) = twL ((f, j, v) :: rest, top) ++ [.tup [.str (hL i), .int w], .tup [.tup [], .int 0, .int 0]] := by
          rw [← push]
          unfold stepT
          dsimp only
          rw [if_neg hc]
        refine ⟨.next, .val .non, ?_, .inl rfl⟩
        rw [q]
        clear push len pF dF sp
        generalize twL ((f, j, v) :: rest, top) = F at *
        generalize trS (hL j, v) = SS at *
        generalize tF top = T1 at *
        generalize hL i = z at *
        generalize trM m rows = M at *
        generalize callF gc 64 fs d = cf at *
        simp [l_tower_of_0, g1, ol, last, at2, c, l1, l2, pS, dS, d_own, -kIdx3, -opC2_inT]
end G
/-! Towers: the law's own. -/
namespace G
open Ev PySem L2 G17
theorem slT_nb' {x : Str} {z : Tr} {a b : Option Int} (h : slT (.str x) a b = some z) : z.pure = true := by
  simp only [slT] at h
  split at h
  · injection h with h
    subst h
    rfl
  · cases h
theorem law_form_one {d : Nat} {mem : List Ob} {l : Le} {k : Int} (hd : 3 ≤ d) : callF gc 64 fs d n_law_form [.lst [.tup [.str l.s, .int k]]] mem = some (tF (step E0 (l, k)), mem) := by
  obtain ⟨d, rfl⟩ : ∃ d', d = d' + 1 := ⟨d - 1, by omega⟩
  have hi : ∀ l : List Tr, items 0 [.lst l] = some l := fun l => rfl
  have h1 : ¬ (("x" : Str) = "y") := by decide +kernel
  have h2 : ¬ (("x" : Str) = "t") := by decide +kernel
  have h3 : ¬ (("y" : Str) = "t") := by decide +kernel
  have key : ∃ g : Fo, mul E0 g = step E0 (l, k) ∧ g.1.length ≤ 1 ∧ idxT (.dk [.inr "x", .inr "y", .inr "t"] [.tup [.tup [], .int k, .int 0], .tup [.tup [], .int 0, .int k], .tup [.tup [.tup [.tup [.int 0, .int 0], .int k]], .int 0, .int 0]]) (.str l.s) = some (tF g) := by
    cases l with
    | x => exact ⟨([], k, 0), by simp [mul, cat, pushL, shf, E0, G17.step], by simp, rfl⟩
    | y => exact ⟨([], 0, k), by simp [mul, cat, pushL, shf, E0, G17.step], by simp, by
        show (Option.map (fun x => getK x _ _) (keyT (.str "y"))).bind id = _
        simp [keyT, getK, h1, h1 ∘ Eq.symm, tF, G17.trF]⟩
    | t => exact ⟨([((0, 0), k)], 0, 0), by simp [mul, cat, pushL, shf, E0, G17.step], by simp, by
        show (Option.map (fun x => getK x _ _) (keyT (.str "t"))).bind id = _
        simp [keyT, getK, h2, h3, tF, G17.trF, G17.trP]⟩
  obtain ⟨g, g1, g2, g3⟩ := key
  have e := law_times (d := d) (mem := mem) (f := E0) (g := g) (by omega) trivial (by simp [E0]) (by omega)
  rw [g1] at e
  have q : tF E0 = .tup [.tup [], .int 0, .int 0] := rfl
  rw [q] at e
  have pg : (tF g).pure = true := rfl
  have pr : (tF (step E0 (l, k))).pure = true := rfl
  rw [callS (fn := f_law_form) rfl rfl rfl]
  have dg : ∀ s : Sta, s.deref (tF g) = tF g := fun s => rfl
  clear g1 q
  generalize tF (step E0 (l, k)) = R at *
  generalize tF g = GG at *
  generalize l.s = z at *
  generalize callF gc 64 fs d = cf at *
  simp [f_law_form, b_law_form, l_law_form_0, hi, forGo, asg, asgs, dspT, keyT, h1, h2, h3, g3, e, pg, pr, dg]
theorem ltow_step {d m B n : Nat} {mem : List Ob} {rows : List Row} {x1 s5 : Slot} {T : Tw} {s : Sy} (hd : 3 ≤ d) (hM : MOk m rows) (hT : TOk B n rows.length T) (hs : s.ok rows.length) (hB : 8 ≤ B) (hB2 : B ≤ 200000) (hn : n ≤ 40000) (hst : T.1.length ≤ 40000) : ∃ fl t5,
    exSs gc (callF gc 64 fs d) 64 l_law_tower_0 ⟨[.val (trO m rows), x1, .own (.lst (twL T)), .val (.str s.syl.1), .val (.int s.syl.2), s5], mem⟩ = .ok fl ⟨[.val (trO m rows), x1, .own (.lst (twL (stepT m rows T s))), .val (.str s.syl.1), .val (.int s.syl.2), t5], mem⟩ ∧ (fl = .next ∨ fl = .cont) := by
  have ol : ∀ (l : List Tr) (y : Tr) (s2 : Sta), kIdx3 y s2 (.lst l) = Rs.of (idxT (.lst l) (s2.deref y)) s2 := fun l y s2 => rfl
  have len := twL_len T
  have last := twL_last T
  have pM : (trO m rows).pure = true := rfl
  have dM : ∀ s : Sta, s.deref (trO m rows) = trO m rows := fun s => rfl
  have hl80 := hM.len
  have dF : ∀ (f : Fo) (s : Sta), s.deref (tF f) = tF f := fun f s => rfl
  have pF : ∀ f : Fo, (tF f).pure = true := fun f => rfl
  have tl : T.2.1.length ≤ 40000 := by have := hT.len; omega
  cases s with
  | g l k =>
    have g1 := in_gr l.s
    rw [le_gr] at g1
    have e1 := law_form_one (d := d) (mem := mem) (l := l) (k := k) (by omega)
    have sl1 : (step E0 (l, k)).1.length ≤ 40000 := by have := step_len E0 (l, k); have : E0.1.length = 0 := rfl; omega
    have e2 := law_times (d := d) (mem := mem) (f := T.2) (g := step E0 (l, k)) (by omega) hT.red tl sl1
    rw [mul_one l k hT.red] at e2
    obtain ⟨st, top⟩ := T
    have ix : ixN (twL (st, top)).length (-1) = some (twA st).length := ix_last (twA st) (tF top)
    have se : ∀ t, (twL (st, top)).set (twA st).length t = twA st ++ [t] := fun t => set_last (twA st) (tF top) t
    refine ⟨.next, s5, ?_, .inl rfl⟩
    have q : twL (stepT m rows (st, top) (.g l k)) = twA st ++ [tF (step top (l, k))] := rfl
    have s1 : (Sy.g l k).syl.1 = l.s := rfl
    have s2 : (Sy.g l k).syl.2 = k := rfl
    rw [q, s1, s2]
    dsimp only at e2 last
    have p1 := pF top
    have p2 := pF (step top (l, k))
    have p3 := pF (step E0 (l, k))
    have d1 := dF top
    clear pF dF len
    generalize twL (st, top) = F at *
    generalize twA st = A at *
    generalize tF top = T1 at *
    generalize tF (step top (l, k)) = T2 at *
    generalize tF (step E0 (l, k)) = T3 at *
    generalize l.s = z at *
    generalize trO m rows = M at *
    generalize callF gc 64 fs d = cf at *
    simp [l_law_tower_0, g1, e1, e2, ol, last, ix, se, p1, p2, p3, d1, d_own, -kIdx3, -opC2_inT]
  | h i w =>
    obtain ⟨hi, hw⟩ := hs
    have g1 := in_gr (hL i)
    rw [not_gr i (by omega)] at g1
    have g2 := nin_gr (hL i)
    obtain ⟨zz, e1, e1'⟩ := cut_hand (show i < 100 by omega)
    have pz : zz.pure = true := slT_nb' e1
    have dz : ∀ s : Sta, s.deref zz = zz := fun s => d_pure pz
    have s1 : (Sy.h i w).syl.1 = hL i := rfl
    have s2 : (Sy.h i w).syl.2 = w := rfl
    have qE : tF E0 = .tup [.tup [], .int 0, .int 0] := rfl
    have qS : trS (hL i, w) = .tup [.str (hL i), .int w] := rfl
    have push : ∀ (st : List (Fo × Nat × Int)) (top : Fo), twL ((top, i, w) :: st, E0) = twL (st, top) ++ [.tup [.str (hL i), .int w], .tup [.tup [], .int 0, .int 0]] := fun st top => by rw [twL_split, qE, qS]
    rw [s1, s2]
    obtain ⟨st, top⟩ := T
    dsimp only at last hst tl
    cases st with
    | nil =>
      refine ⟨.next, .val .non, ?_, .inl rfl⟩
      have q : twL (stepT m rows ([], top) (.h i w)) = twL ([], top) ++ [.tup [.str (hL i), .int w], .tup [.tup [], .int 0, .int 0]] := push [] top
      rw [q]
      have l1 : (twL (([] : List (Fo × Nat × Int)), top)).length = 1 := len
      clear push len
      generalize twL (([] : List (Fo × Nat × Int)), top) = F at *
      generalize hL i = z at *
      generalize trO m rows = M at *
      generalize callF gc 64 fs d = cf at *
      simp [l_law_tower_0, g1, l1, d_own, -kIdx3, -opC2_inT]
    | cons e rest =>
      obtain ⟨f, j, v⟩ := e
      obtain ⟨fr, fbb, hj, hv⟩ := hT.st (f, j, v) (List.mem_cons_self ..)
      dsimp only at fr fbb hj hv
      have c := eq_hand (i := i) (j := j) (v := v) (w := -w) (by omega) (by omega)
      have sp := twL_split f j v rest top
      have at2 := at_two (twL (rest, f)) (trS (hL j, v)) (tF top)
      rw [← sp] at at2
      have l1 : 1 < ((twL ((f, j, v) :: rest, top)).length : Int) := by rw [len]; dsimp only; rw [List.length_cons]; omega
      have l2 : (twL ((f, j, v) :: rest, top)).length + 2 ≤ 16777216 := by rw [len]; dsimp only; omega
      have pS : (trS (hL j, v)).pure = true := rfl
      have dS : ∀ s : Sta, s.deref (trS (hL j, v)) = trS (hL j, v) := fun s => rfl
      by_cases hc : j = i ∧ v = -w
      · rw [decide_eq_true hc] at c
        have e2 := law_passed (d := d) (mem := mem) (f := top) (by omega) hM hi tl hw hB hB2 hT.fb
        cases hp : passF m rows i top w with
        | none =>
          rw [hp] at e2
          have e2' : callF gc 64 fs d n_law_passed [trO m rows, .int i, tF top, .int w] mem = some (.non, mem) := e2
          have q : twL (stepT m rows ((f, j, v) :: rest, top) (.h i w)) = twL ((f, j, v) :: rest, top) ++ [.tup [.str (hL i), .int w], .tup [.tup [], .int 0, .int 0]] := by
            rw [← push]
            unfold stepT
            dsimp only
            rw [if_pos hc, hp]
          refine ⟨.next, .val .non, ?_, .inl rfl⟩
          rw [q]
          have p1 := pF top
          have d1 := dF top
          clear push len pF dF sp e2
          generalize twL ((f, j, v) :: rest, top) = F at *
          generalize trS (hL j, v) = SS at *
          generalize tF top = T1 at *
          generalize hL i = z at *
          generalize trO m rows = M at *
          generalize callF gc 64 fs d = cf at *
          simp [l_law_tower_0, g1, e1, e1', pz, dz, e2', ol, last, at2, c, l1, l2, pS, dS, p1, d1, pM, d_own, asInt, isNul, -kIdx3, -opC2_inT]
        | some g =>
          rw [hp] at e2
          have e2' : callF gc 64 fs d n_law_passed [trO m rows, .int i, tF top, .int w] mem = some (tF g, mem) := e2
          obtain ⟨gb, gl⟩ := passF_ok hM hi hB hT.fb hp
          dsimp only at gl
          have fl : f.1.length ≤ 40000 := by
            have := hT.len
            simp only [List.map_cons, List.sum_cons] at this
            omega
          have e3 := law_times (d := d) (mem := mem) (f := f) (g := g) (by omega) fr fl (by omega)
          have q : twL (stepT m rows ((f, j, v) :: rest, top) (.h i w)) = twA rest ++ [tF (mul f g)] := by
            unfold stepT
            dsimp only
            rw [if_pos hc, hp]
            rfl
          have cut := cut_two (twL (rest, f)) (trS (hL j, v)) (tF top)
          rw [← sp] at cut
          have last2 : (twL (rest, f)).getLast? = some (tF f) := twL_last (rest, f)
          have ix : ixN (twL (rest, f)).length (-1) = some (twA rest).length := ix_last (twA rest) (tF f)
          have se : ∀ t, (twL (rest, f)).set (twA rest).length t = twA rest ++ [t] := fun t => set_last (twA rest) (tF f) t
          refine ⟨.next, .val (tF g), ?_, .inl rfl⟩
          rw [q]
          have cg : opC2 .isN (tF g) .non = some false := rfl
          have p1 := pF top
          have d1 := dF top
          have p2 := pF g
          have d2 := dF g
          have p3 := pF f
          have d3 := dF f
          have p4 := pF (mul f g)
          clear push len pF dF sp e2
          generalize twL ((f, j, v) :: rest, top) = F at *
          generalize twL (rest, f) = FR at *
          generalize twA rest = A at *
          generalize trS (hL j, v) = SS at *
          generalize tF (mul f g) = T4 at *
          generalize tF top = T1 at *
          generalize tF g = T2 at *
          generalize tF f = T3 at *
          generalize hL i = z at *
          generalize trO m rows = M at *
          generalize callF gc 64 fs d = cf at *
          simp [l_law_tower_0, g1, e1, e1', pz, dz, e2', e3, ol, last, last2, at2, cut, ix, se, c, cg, l1, pS, dS, p1, d1, p2, d2, p3, d3, p4, pM, d_own, asInt, isNul, -kIdx3, -opC2_inT]
      · rw [decide_eq_false hc] at c
        have q : twL (stepT m rows ((f, j, v) :: rest, top) (.h i w)) = twL ((f, j, v) :: rest, top) ++ [.tup [.str (hL i), .int w], .tup [.tup [], .int 0, .int 0]] := by
          rw [← push]
          unfold stepT
          dsimp only
          rw [if_neg hc]
        refine ⟨.next, .val .non, ?_, .inl rfl⟩
        rw [q]
        clear push len pF dF sp
        generalize twL ((f, j, v) :: rest, top) = F at *
        generalize trS (hL j, v) = SS at *
        generalize tF top = T1 at *
        generalize hL i = z at *
        generalize trO m rows = M at *
        generalize callF gc 64 fs d = cf at *
        simp [l_law_tower_0, g1, ol, last, at2, c, l1, l2, pS, dS, d_own, -kIdx3, -opC2_inT]
end G
/-! Whole towers; empty or not. -/
namespace G
open Ev PySem L2 G17
theorem stepT_st (m : Nat) (rows : List Row) (T : Tw) (s : Sy) : (stepT m rows T s).1.length ≤ T.1.length + 1 := by
  obtain ⟨st, top⟩ := T
  cases s with
  | g l k => show st.length ≤ st.length + 1; omega
  | h i w =>
    cases st with
    | nil => simp [stepT]
    | cons e rest =>
      obtain ⟨f, j, v⟩ := e
      unfold stepT
      dsimp only
      split
      · split
        · simp only [List.length_cons]; omega
        · simp only [List.length_cons]; omega
      · simp only [List.length_cons]; omega
theorem runT_cons (m : Nat) (rows : List Row) (T : Tw) (s : Sy) (w : List Sy) : runT m rows T (s :: w) = runT m rows (stepT m rows T s) w := rfl
theorem runT_app (m : Nat) (rows : List Row) (T : Tw) (u w : List Sy) : runT m rows T (u ++ w) = runT m rows (runT m rows T u) w := List.foldl_append ..
def Pw (B : Nat) (w : List Sy) : Prop := ∀ l k, Sy.g l k ∈ w → k.natAbs < 2 ^ B
theorem runT_ok {m n : Nat} {rows : List Row} (hM : MOk m rows) : ∀ (w : List Sy) (B n : Nat) (T : Tw), 8 ≤ B → TOk B n rows.length T → (∀ s ∈ w, s.ok rows.length) → Pw B w → TOk (B + 10 * w.length) (n + w.length) rows.length (runT m rows T w) ∧ (runT m rows T w).1.length ≤ T.1.length + w.length
  | [], B, n, T, _, h, _, _ => ⟨by simpa [runT] using h, by simp [runT]⟩
  | s :: w, B, n, T, hB, h, hs, hp => by
    have h1 := stepT_ok hM hB h (hs s (List.mem_cons_self ..)) (fun l k e => hp l k (by rw [e]; exact List.mem_cons_self ..))
    have h2 := stepT_st m rows T s
    obtain ⟨a, b⟩ := runT_ok (n := n) hM w (B + 10) (n + 1) (stepT m rows T s) (by omega) h1 (fun x hx => hs x (List.mem_cons_of_mem _ hx)) (fun l k hx => Nat.lt_of_lt_of_le (hp l k (List.mem_cons_of_mem _ hx)) (Nat.pow_le_pow_right (by omega) (by omega)))
    rw [runT_cons, List.length_cons]
    refine ⟨?_, by omega⟩
    have e1 : B + 10 + 10 * w.length = B + 10 * (w.length + 1) := by omega
    have e2 : n + 1 + w.length = n + (w.length + 1) := by omega
    rw [← e1, ← e2]
    exact a
theorem tow_loop {d m : Nat} {mem : List Ob} {rows : List Row} {x1 : Slot} (hd : 3 ≤ d) (hM : MOk m rows) : ∀ (w : List Sy) (B n : Nat) (T : Tw) (s3 s4 s5 : Slot), 8 ≤ B → B + 10 * w.length ≤ 200000 → n + w.length ≤ 40000 → T.1.length + w.length ≤ 40000 → TOk B n rows.length T → (∀ s ∈ w, s.ok rows.length) → Pw B w → ∃ t3 t4 t5,
    forGo (.tp [.nm 3, .nm 4]) (exSs gc (callF gc 64 fs d) 64 l_tower_of_0) (w.map fun s => trS s.syl) ⟨[.val (trM m rows), x1, .own (.lst (twL T)), s3, s4, s5], mem⟩ = .ok .next ⟨[.val (trM m rows), x1, .own (.lst (twL (runT m rows T w))), t3, t4, t5], mem⟩
  | [], B, n, T, s3, s4, s5, _, _, _, _, _, _, _ => ⟨s3, s4, s5, by simp [forGo, runT]⟩
  | s :: w, B, n, T, s3, s4, s5, hB, hB2, hn, hl, h, hs, hp => by
    rw [List.length_cons] at hB2 hn hl
    obtain ⟨fl, t5, e, hf⟩ := tow_step (mem := mem) (x1 := x1) (s5 := s5) hd hM h (hs s (List.mem_cons_self ..)) hB (by omega) (by omega) (by omega)
    have h1 := stepT_ok hM hB h (hs s (List.mem_cons_self ..)) (fun l k e => hp l k (by rw [e]; exact List.mem_cons_self ..))
    have h2 := stepT_st m rows T s
    obtain ⟨u3, u4, u5, e2⟩ := tow_loop (mem := mem) (x1 := x1) hd hM w (B + 10) (n + 1) (stepT m rows T s) (.val (.str s.syl.1)) (.val (.int s.syl.2)) t5 (by omega) (by omega) (by omega) (by omega) h1 (fun x hx => hs x (List.mem_cons_of_mem _ hx)) (fun l k hx => Nat.lt_of_lt_of_le (hp l k (List.mem_cons_of_mem _ hx)) (Nat.pow_le_pow_right (by omega) (by omega)))
    refine ⟨u3, u4, u5, ?_⟩
    have ha : asg (.tp [.nm 3, .nm 4]) (trS s.syl) [.val (trM m rows), x1, .own (.lst (twL T)), s3, s4, s5] = some [.val (trM m rows), x1, .own (.lst (twL T)), .val (.str s.syl.1), .val (.int s.syl.2), s5] := by simp [asg, asgs, trS]
    rw [List.map_cons, runT_cons]
    rcases hf with rfl | rfl
    · rw [forGo_cons ha e, e2]
    · rw [forGo_cont ha e, e2]
theorem ltow_loop {d m : Nat} {mem : List Ob} {rows : List Row} {x1 : Slot} (hd : 3 ≤ d) (hM : MOk m rows) : ∀ (w : List Sy) (B n : Nat) (T : Tw) (s3 s4 s5 : Slot), 8 ≤ B → B + 10 * w.length ≤ 200000 → n + w.length ≤ 40000 → T.1.length + w.length ≤ 40000 → TOk B n rows.length T → (∀ s ∈ w, s.ok rows.length) → Pw B w → ∃ t3 t4 t5,
    forGo (.tp [.nm 3, .nm 4]) (exSs gc (callF gc 64 fs d) 64 l_law_tower_0) (w.map fun s => trS s.syl) ⟨[.val (trO m rows), x1, .own (.lst (twL T)), s3, s4, s5], mem⟩ = .ok .next ⟨[.val (trO m rows), x1, .own (.lst (twL (runT m rows T w))), t3, t4, t5], mem⟩
  | [], B, n, T, s3, s4, s5, _, _, _, _, _, _, _ => ⟨s3, s4, s5, by simp [forGo, runT]⟩
  | s :: w, B, n, T, s3, s4, s5, hB, hB2, hn, hl, h, hs, hp => by
    rw [List.length_cons] at hB2 hn hl
    obtain ⟨fl, t5, e, hf⟩ := ltow_step (mem := mem) (x1 := x1) (s5 := s5) hd hM h (hs s (List.mem_cons_self ..)) hB (by omega) (by omega) (by omega)
    have h1 := stepT_ok hM hB h (hs s (List.mem_cons_self ..)) (fun l k e => hp l k (by rw [e]; exact List.mem_cons_self ..))
    have h2 := stepT_st m rows T s
    obtain ⟨u3, u4, u5, e2⟩ := ltow_loop (mem := mem) (x1 := x1) hd hM w (B + 10) (n + 1) (stepT m rows T s) (.val (.str s.syl.1)) (.val (.int s.syl.2)) t5 (by omega) (by omega) (by omega) (by omega) h1 (fun x hx => hs x (List.mem_cons_of_mem _ hx)) (fun l k hx => Nat.lt_of_lt_of_le (hp l k (List.mem_cons_of_mem _ hx)) (Nat.pow_le_pow_right (by omega) (by omega)))
    refine ⟨u3, u4, u5, ?_⟩
    have ha : asg (.tp [.nm 3, .nm 4]) (trS s.syl) [.val (trO m rows), x1, .own (.lst (twL T)), s3, s4, s5] = some [.val (trO m rows), x1, .own (.lst (twL T)), .val (.str s.syl.1), .val (.int s.syl.2), s5] := by simp [asg, asgs, trS]
    rw [List.map_cons, runT_cons]
    rcases hf with rfl | rfl
    · rw [forGo_cons ha e, e2]
    · rw [forGo_cont ha e, e2]
def tw (m : Nat) (rows : List Row) (w : List Sy) : Tw := runT m rows ([], E0) w
theorem E0_ok (B k : Nat) : TOk B 0 k ([], E0) := ⟨trivial, E0_fb B, (by intro x hx; cases hx), by simp [E0]⟩
theorem tower_of {d m B : Nat} {mem : List Ob} {rows : List Row} {w : List Sy} (hd : 4 ≤ d) (hM : MOk m rows) (hs : ∀ s ∈ w, s.ok rows.length) (hB : 8 ≤ B) (hB2 : B + 10 * w.length ≤ 200000) (hp : Pw B w) (hl : w.length ≤ 10000) : callF gc 64 fs d n_tower_of [trM m rows, trW (sW w)] mem = some (.tup (twL (tw m rows w)), mem) := by
  obtain ⟨d, rfl⟩ : ∃ d', d = d' + 1 := ⟨d - 1, by omega⟩
  obtain ⟨t3, t4, t5, e⟩ := tow_loop (d := d) (mem := mem) (x1 := .val (trW (sW w))) (by omega) hM w B 0 ([], E0) .none .none .none hB hB2 (by omega) (by show 0 + _ ≤ _; omega) (E0_ok B _) hs hp
  have hi : items 0 [trW (sW w)] = some (w.map fun s => trS s.syl) := by rw [sW_tr]; rfl
  have q : twL (([] : List (Fo × Nat × Int)), E0) = [.tup [.tup [], .int 0, .int 0]] := rfl
  rw [q] at e
  have pW : (trW (sW w)).pure = true := rfl
  have lW : ∀ s : Sta, s.deref (trW (sW w)) = trW (sW w) := fun s => rfl
  have q2 : tw m rows w = runT m rows ([], E0) w := rfl
  rw [callS (fn := f_tower_of) rfl rfl rfl, q2]
  generalize twL (runT m rows ([], E0) w) = R at *
  generalize (w.map fun s => trS s.syl) = WW at *
  generalize trW (sW w) = W at *
  generalize trM m rows = M at *
  simp [f_tower_of, b_tower_of, hi, e, d_own, pW, lW]
theorem law_tower {d m B : Nat} {mem : List Ob} {rows : List Row} {w : List Sy} (hd : 4 ≤ d) (hM : MOk m rows) (hs : ∀ s ∈ w, s.ok rows.length) (hB : 8 ≤ B) (hB2 : B + 10 * w.length ≤ 200000) (hp : Pw B w) (hl : w.length ≤ 10000) : callF gc 64 fs d n_law_tower [trO m rows, trW (sW w)] mem = some (.tup (twL (tw m rows w)), mem) := by
  obtain ⟨d, rfl⟩ : ∃ d', d = d' + 1 := ⟨d - 1, by omega⟩
  obtain ⟨t3, t4, t5, e⟩ := ltow_loop (d := d) (mem := mem) (x1 := .val (trW (sW w))) (by omega) hM w B 0 ([], E0) .none .none .none hB hB2 (by omega) (by show 0 + _ ≤ _; omega) (E0_ok B _) hs hp
  have hi : items 0 [trW (sW w)] = some (w.map fun s => trS s.syl) := by rw [sW_tr]; rfl
  have q : twL (([] : List (Fo × Nat × Int)), E0) = [.tup [.tup [], .int 0, .int 0]] := rfl
  rw [q] at e
  have pW : (trW (sW w)).pure = true := rfl
  have lW : ∀ s : Sta, s.deref (trW (sW w)) = trW (sW w) := fun s => rfl
  have q2 : tw m rows w = runT m rows ([], E0) w := rfl
  rw [callS (fn := f_law_tower) rfl rfl rfl, q2]
  generalize twL (runT m rows ([], E0) w) = R at *
  generalize (w.map fun s => trS s.syl) = WW at *
  generalize trW (sW w) = W at *
  generalize trO m rows = M at *
  simp [f_law_tower, b_law_tower, hi, e, d_own, pW, lW]
/-! empty or not -/
def emp (T : Tw) : Bool := T.1.isEmpty && (T.2.1.isEmpty && (decide (T.2.2.1 = 0) && decide (T.2.2.2 = 0)))
theorem emp_iff (T : Tw) : emp T = true ↔ T = ([], E0) := by
  obtain ⟨st, s, a, b⟩ := T
  unfold emp E0
  simp only [Bool.and_eq_true, List.isEmpty_iff, decide_eq_true_eq, Prod.mk.injEq]
theorem gdF (f : Fo) : gd 4 (tF f) = true := by
  rw [tF_eq]
  have h : gds 2 (f.1.reverse.map G17.trP) = true := by
    rw [gds_iff]
    intro t ht
    obtain ⟨x, _, rfl⟩ := List.mem_map.mp ht
    rfl
  show (gds 2 (f.1.reverse.map G17.trP) && (true && (true && true))) = true
  rw [h]
  rfl
theorem gd_tw {T : Tw} {k : Nat} (h : ∀ x ∈ T.1, x.2.1 < k) (hk : k ≤ 80) : gds 4 (twL T) = true := by
  rw [gds_iff]
  intro t ht
  rcases List.mem_append.mp ht with ht | ht
  · obtain ⟨x, hx, ht⟩ := List.mem_flatMap.mp ht
    have hx' := h x (List.mem_reverse.mp hx)
    rcases List.mem_cons.mp ht with rfl | ht
    · exact gdF x.1
    · rw [List.mem_singleton.mp ht]
      simp [trS, gd, gds, str_ok x.2.1 (by omega)]
  · rw [List.mem_singleton.mp ht]
    exact gdF T.2
theorem eq_emp {T : Tw} {k : Nat} (h : ∀ x ∈ T.1, x.2.1 < k) (hk : k ≤ 80) : eqT (.tup (twL T)) (.tup [.tup [.tup [], .int 0, .int 0]]) = some (emp T) := by
  obtain ⟨ds, d1, d2, d3⟩ := gds_data 4 (twL T) (gd_tw h hk)
  have e : eqT (.tup (twL T)) (.tup [.tup [.tup [], .int 0, .int 0]]) = eqD (.tup (twL T)) (.tup [.tup [.tup [], .int 0, .int 0]]) := rfl
  have D1 : (Tr.tup (twL T)).data = some (.tuple ds) := by simp only [Tr.data, d1]
  have D2 : (Tr.tup [.tup [.tup [], .int 0, .int 0]]).data = some (.tuple [.tuple [.tuple [], .int 0, .int 0]]) := rfl
  have s1 : SeqAt.shaped (.tuple ds) = true := shaped_of (n := 5) d2 (by show PyData.depthAll ds + 1 ≤ 5; omega) (by omega)
  have s2 : SeqAt.shaped (.tuple [.tuple [.tuple [], .int 0, .int 0]]) = true := rfl
  rw [e]
  unfold eqD
  rw [D1, D2]
  simp only [s1, s2, Bool.and_self, if_true]
  congr 1
  obtain ⟨st, top⟩ := T
  have tlen : ∀ (l : List Tr) (es : List PyData), datas l = some es → es.length = l.length := by
    intro l
    induction l with
    | nil => intro es h; simp only [datas] at h; cases h; rfl
    | cons t l ih =>
      intro es h
      simp only [datas] at h
      split at h
      · rename_i d ds' h1 h2
        cases h
        rw [List.length_cons, List.length_cons, ih _ h2]
      · cases h
  cases st with
  | cons x rest =>
    have hl := tlen _ _ d1
    rw [twL_len] at hl
    have em : emp (x :: rest, top) = false := rfl
    rw [em]
    show PyData.eqvAll ds [.tuple [.tuple [], .int 0, .int 0]] = false
    cases ds with
    | nil => simp at hl
    | cons a ds =>
      cases ds with
      | nil => simp at hl
      | cons b ds => simp [PyData.eqvAll]
  | nil =>
    obtain ⟨s, a, b⟩ := top
    have items : ∀ L : List It, datas (L.map G17.trP) = some (L.map fun e => .tuple [.tuple [.int e.1.1, .int e.1.2], .int e.2]) := by
      intro L
      induction L with
      | nil => rfl
      | cons e L ih =>
        rw [List.map_cons]
        simp only [datas, ih]
        rfl
    have dF : datas (twL (([] : List (Fo × Nat × Int)), ((s, a, b) : Fo))) = some [.tuple [.tuple (s.reverse.map fun e => .tuple [.tuple [.int e.1.1, .int e.1.2], .int e.2]), .int a, .int b]] := by
      have q : twL (([] : List (Fo × Nat × Int)), ((s, a, b) : Fo)) = [.tup [.tup (s.reverse.map G17.trP), .int a, .int b]] := rfl
      rw [q]
      simp only [datas, Tr.data, items]
    rw [dF] at d1
    cases d1
    show PyData.eqvAll _ _ = emp (([] : List (Fo × Nat × Int)), ((s, a, b) : Fo))
    cases s with
    | nil =>
      simp [PyData.eqvAll, PyData.eqv, emp]
      rw [Bool.eq_iff_iff]
      simp
    | cons e0 s =>
      have em : emp (([] : List (Fo × Nat × Int)), ((e0 :: s, a, b) : Fo)) = false := rfl
      rw [em]
      have hl : ((e0 :: s).reverse.map fun e : It => PyData.tuple [.tuple [.int e.1.1, .int e.1.2], .int e.2]) ≠ [] := by simp
      generalize ((e0 :: s).reverse.map fun e : It => PyData.tuple [.tuple [.int e.1.1, .int e.1.2], .int e.2]) = Z at *
      cases Z with
      | nil => exact absurd rfl hl
      | cons y Z => simp [PyData.eqvAll, PyData.eqv]
end G
/-! Forms are a group; what a hand passes is a subgroup, carried as a group. -/
namespace G
open Ev PySem L2 G17
theorem shf_cat (a b : Int) (s : List It) : ∀ r : List It, shf a b (cat s r) = cat (shf a b s) (shf a b r)
  | [] => rfl
  | e :: r => by
    rw [cat_cons, shf_push, shf_cat a b s r]
    show _ = cat (shf a b s) (((e.1.1 - a, e.1.2 - b), e.2) :: shf a b r)
    rw [cat_cons]
theorem mul_assoc {f g h : Fo} (hf : Red f.1) (hg : Red g.1) : mul (mul f g) h = mul f (mul g h) := by
  unfold mul
  dsimp only
  rw [shf_cat, shf_shf, cat_assoc hf (shf_red _ _ hg)]
  simp only [Int.add_assoc]
theorem mul_E0 (f : Fo) : mul f E0 = f := by
  unfold mul E0
  dsimp only
  have : shf f.2.1 f.2.2 [] = [] := rfl
  rw [this, cat_nil, Int.add_zero, Int.add_zero]
theorem E0_mul {f : Fo} (hf : Red f.1) : mul E0 f = f := by
  unfold mul E0
  dsimp only
  rw [shf_zero, cat_self hf, Int.zero_add, Int.zero_add]
def invF (f : Fo) : Fo := (shf (-f.2.1) (-f.2.2) (turn f.1), -f.2.1, -f.2.2)
theorem invF_red {f : Fo} (hf : Red f.1) : Red (invF f).1 := shf_red _ _ (red_turn hf)
theorem mul_inv (f : Fo) : mul f (invF f) = E0 := by
  unfold mul invF E0
  dsimp only
  rw [shf_shf]
  have e1 : f.2.1 + -f.2.1 = 0 := by omega
  have e2 : f.2.2 + -f.2.2 = 0 := by omega
  rw [e1, e2, shf_zero, cat_turn]
theorem inv_mul (f : Fo) : mul (invF f) f = E0 := by
  unfold mul invF E0
  dsimp only
  rw [← shf_cat]
  have h := cat_turn (turn f.1)
  rw [turn_turn] at h
  rw [h]
  have e1 : -f.2.1 + f.2.1 = 0 := by omega
  have e2 : -f.2.2 + f.2.2 = 0 := by omega
  rw [e1, e2]
  rfl
theorem inv_of {f g : Fo} (hf : Red f.1) (hg : Red g.1) (h : mul f g = E0) : g = invF f := by
  have h2 : mul (invF f) (mul f g) = mul (invF f) E0 := by rw [h]
  rw [← mul_assoc (invF_red hf) hf, inv_mul, E0_mul hg, mul_E0] at h2
  exact h2
/-! pairs carried -/
def mapP (φ : Int × Int → Int × Int) (s : List It) : List It := s.map fun e => (φ e.1, e.2)
theorem mapP_push {φ : Int × Int → Int × Int} {S : Int × Int → Prop} (inj : ∀ p q, S p → S q → φ p = φ q → p = q) {p : Int × Int} {k : Int} {s : List It} (hp : S p) (hs : ∀ e ∈ s, S e.1) : mapP φ (push p k s) = push (φ p) k (mapP φ s) := by
  cases s with
  | nil =>
    show mapP φ (push p k []) = push (φ p) k []
    rw [push_nil, push_nil]
    split <;> rfl
  | cons e r =>
    show mapP φ (push p k (e :: r)) = push (φ p) k ((φ e.1, e.2) :: mapP φ r)
    rw [push_cons, push_cons]
    by_cases h : e.1 = p
    · have h' : φ e.1 = φ p := by rw [h]
      rw [if_pos h, if_pos h']
      dsimp only
      split <;> rfl
    · have h' : ¬ φ e.1 = φ p := fun z => h (inj _ _ (hs e (List.mem_cons_self ..)) hp z)
      rw [if_neg h, if_neg h']
      split <;> rfl
theorem mapP_cat {φ : Int × Int → Int × Int} {S : Int × Int → Prop} (inj : ∀ p q, S p → S q → φ p = φ q → p = q) {s : List It} (hs : ∀ e ∈ s, S e.1) : ∀ r : List It, (∀ e ∈ r, S e.1) → mapP φ (cat s r) = cat (mapP φ s) (mapP φ r)
  | [], _ => rfl
  | e :: r, hr => by
    rw [cat_cons, mapP_push inj (hr e (List.mem_cons_self ..)), mapP_cat inj hs r (fun x hx => hr x (List.mem_cons_of_mem _ hx))]
    · show _ = cat (mapP φ s) ((φ e.1, e.2) :: mapP φ r)
      rw [cat_cons]
    · intro x hx
      rcases cat_mem hx with h | ⟨y, hy, h⟩
      · exact hs x h
      · rw [← h]; exact hr y (List.mem_cons_of_mem _ hy)
theorem mapP_red {φ : Int × Int → Int × Int} {S : Int × Int → Prop} (inj : ∀ p q, S p → S q → φ p = φ q → p = q) : ∀ {s : List It}, (∀ e ∈ s, S e.1) → Red s → Red (mapP φ s)
  | [], _, _ => trivial
  | e :: r, hs, h => by
    refine ⟨h.1, fun x hx => ?_, mapP_red inj (fun x hx => hs x (List.mem_cons_of_mem _ hx)) h.2.2⟩
    cases r with
    | nil => cases hx
    | cons y r =>
      simp only [mapP, List.map_cons, List.head?_cons, Option.mem_def, Option.some.injEq] at hx
      subst hx
      intro z
      exact h.2.1 y (by simp) (inj _ _ (hs e (List.mem_cons_self ..)) (hs y (List.mem_cons_of_mem _ (List.mem_cons_self ..))) z)
/-! one row, to the right -/
def okP (m a b fg : Nat) (w : Int) (p : Int × Int) : Prop := if w = 1 then p.1 % (m : Int) = a ∧ p.2 % (m : Int) = b else (p.1 - fg) % ((m : Int) * m) = 0
def carP (m a b fg : Nat) (w : Int) (p : Int × Int) : Int × Int := if w = 1 then (p.1 / (m : Int) * ((m : Int) * m) + fg, p.2 / (m : Int)) else ((p.1 - fg) / ((m : Int) * m) * m + a, p.2 * m + b)
def okA (m : Nat) (w a b : Int) : Prop := if w = 1 then a % (m : Int) = 0 ∧ b % (m : Int) = 0 else a % ((m : Int) * m) = 0
def carA (m : Nat) (w a b : Int) : Int × Int := if w = 1 then (a * m, b / (m : Int)) else (a / (m : Int), b * m)
theorem okR_iff {m a b fg : Nat} {w : Int} {f : Fo} : okR m a b fg w f = true ↔ okA m w f.2.1 f.2.2 ∧ ∀ e ∈ f.1, okP m a b fg w e.1 := by
  unfold okR okA
  rw [Bool.and_eq_true, List.all_eq_true]
  unfold itOk okP
  by_cases h : w = 1
  · simp only [if_pos h, decide_eq_true_eq]
  · simp only [if_neg h, decide_eq_true_eq]
theorem carR_eq (m a b fg : Nat) (w : Int) (f : Fo) : carR m a b fg w f = (mapP (carP m a b fg w) f.1, carA m w f.2.1 f.2.2) := by
  unfold carR mapP carA
  have : itCar m a b fg w = fun e => (carP m a b fg w e.1, e.2) := by
    funext e
    unfold itCar carP
    split <;> rfl
  rw [this]
theorem lit2 (m M a b fg x y : Int) (ha : 0 ≤ a) (ha2 : a < m) (hb : 0 ≤ b) (hb2 : b < m) (hm : (m = 2 ∧ M = 4) ∨ (m = 3 ∧ M = 9) ∨ (m = 4 ∧ M = 16) ∨ (m = 5 ∧ M = 25) ∨ (m = 6 ∧ M = 36) ∨ (m = 7 ∧ M = 49) ∨ (m = 8 ∧ M = 64) ∨ (m = 9 ∧ M = 81)) :
    ((x % m = a ∧ y % m = b) → (x / m * M + fg - fg) % M = 0 ∧ (x / m * M + fg - fg) / M * m + a = x ∧ y / m * m + b = y) ∧
    ((x - fg) % M = 0 → ((x - fg) / M * m + a) % m = a ∧ (y * m + b) % m = b ∧ ((x - fg) / M * m + a) / m * M + fg = x ∧ (y * m + b) / m = y) := by
  rcases hm with ⟨rfl, rfl⟩ | ⟨rfl, rfl⟩ | ⟨rfl, rfl⟩ | ⟨rfl, rfl⟩ | ⟨rfl, rfl⟩ | ⟨rfl, rfl⟩ | ⟨rfl, rfl⟩ | ⟨rfl, rfl⟩ <;> omega
theorem lit3 (m M a b fg x y p q : Int) (hm : (m = 2 ∧ M = 4) ∨ (m = 3 ∧ M = 9) ∨ (m = 4 ∧ M = 16) ∨ (m = 5 ∧ M = 25) ∨ (m = 6 ∧ M = 36) ∨ (m = 7 ∧ M = 49) ∨ (m = 8 ∧ M = 64) ∨ (m = 9 ∧ M = 81)) :
    ((p % m = 0 ∧ q % m = 0) → (x - p) % m = x % m ∧ (y - q) % m = y % m ∧ (x - p) / m * M + fg = x / m * M + fg - p * m ∧ (y - q) / m = y / m - q / m) ∧
    (p % M = 0 → (x - p - fg) % M = (x - fg) % M ∧ (x - p - fg) / M * m + a = (x - fg) / M * m + a - p / m ∧ (y - q) * m + b = y * m + b - q * m) := by
  rcases hm with ⟨rfl, rfl⟩ | ⟨rfl, rfl⟩ | ⟨rfl, rfl⟩ | ⟨rfl, rfl⟩ | ⟨rfl, rfl⟩ | ⟨rfl, rfl⟩ | ⟨rfl, rfl⟩ | ⟨rfl, rfl⟩ <;> omega
theorem lit4 (m M a b p q : Int) (hm : (m = 2 ∧ M = 4) ∨ (m = 3 ∧ M = 9) ∨ (m = 4 ∧ M = 16) ∨ (m = 5 ∧ M = 25) ∨ (m = 6 ∧ M = 36) ∨ (m = 7 ∧ M = 49) ∨ (m = 8 ∧ M = 64) ∨ (m = 9 ∧ M = 81)) :
    ((a % m = 0 ∧ b % m = 0) → (p % m = 0 ∧ q % m = 0) → ((a + p) % m = 0 ∧ (b + q) % m = 0) ∧ (a + p) * m = a * m + p * m ∧ (b + q) / m = b / m + q / m) ∧
    (a % M = 0 → p % M = 0 → (a + p) % M = 0 ∧ (a + p) / m = a / m + p / m ∧ (b + q) * m = b * m + q * m) ∧
    ((a % m = 0 ∧ b % m = 0) → (-a) % m = 0 ∧ (-b) % m = 0 ∧ a * m % M = 0 ∧ a * m / m = a ∧ b / m * m = b) ∧
    (a % M = 0 → (-a) % M = 0 ∧ (a / m) % m = 0 ∧ b * m % m = 0 ∧ a / m * m = a ∧ b * m / m = b) := by
  rcases hm with ⟨rfl, rfl⟩ | ⟨rfl, rfl⟩ | ⟨rfl, rfl⟩ | ⟨rfl, rfl⟩ | ⟨rfl, rfl⟩ | ⟨rfl, rfl⟩ | ⟨rfl, rfl⟩ | ⟨rfl, rfl⟩ <;> omega
theorem lits {m : Nat} (h2 : 2 ≤ m) (h9 : m ≤ 9) : ((m : Int) = 2 ∧ (m : Int) * m = 4) ∨ ((m : Int) = 3 ∧ (m : Int) * m = 9) ∨ ((m : Int) = 4 ∧ (m : Int) * m = 16) ∨ ((m : Int) = 5 ∧ (m : Int) * m = 25) ∨ ((m : Int) = 6 ∧ (m : Int) * m = 36) ∨ ((m : Int) = 7 ∧ (m : Int) * m = 49) ∨ ((m : Int) = 8 ∧ (m : Int) * m = 64) ∨ ((m : Int) = 9 ∧ (m : Int) * m = 81) := by
  have : m = 2 ∨ m = 3 ∨ m = 4 ∨ m = 5 ∨ m = 6 ∨ m = 7 ∨ m = 8 ∨ m = 9 := by omega
  rcases this with rfl | rfl | rfl | rfl | rfl | rfl | rfl | rfl <;> decide
end G
/-! What passes a hand: a subgroup, carried as a group. -/
namespace G
open Ev PySem L2 G17
structure RM (m a b fg : Nat) : Prop where
  lo : 2 ≤ m
  hi : m ≤ 9
  a : a < m
  b : b < m
theorem back_ok {m a b fg : Nat} {w : Int} {p : Int × Int} (h : RM m a b fg) (hw : w = 1 ∨ w = -1) (hp : okP m a b fg w p) : okP m a b fg (-w) (carP m a b fg w p) ∧ carP m a b fg (-w) (carP m a b fg w p) = p := by
  obtain ⟨x, y⟩ := p
  have ha := h.a
  have hb := h.b
  obtain ⟨l1, l2⟩ := lit2 (m : Int) ((m : Int) * m) a b fg x y (by omega) (by omega) (by omega) (by omega) (lits h.lo h.hi)
  have n1 : ¬ ((-1 : Int) = 1) := by omega
  rcases hw with rfl | rfl
  · unfold okP at hp ⊢
    unfold carP
    simp only [if_true] at hp
    simp only [if_true, if_neg n1]
    obtain ⟨q1, q2, q3⟩ := l1 hp
    exact ⟨q1, Prod.ext q2 q3⟩
  · unfold okP at hp ⊢
    unfold carP
    simp only [if_neg n1] at hp
    simp only [Int.neg_neg, if_true, if_neg n1]
    obtain ⟨q1, q2, q3, q4⟩ := l2 hp
    exact ⟨⟨q1, q2⟩, Prod.ext q3 q4⟩
theorem carP_inj {m a b fg : Nat} {w : Int} (h : RM m a b fg) (hw : w = 1 ∨ w = -1) : ∀ p q, okP m a b fg w p → okP m a b fg w q → carP m a b fg w p = carP m a b fg w q → p = q := fun p q hp hq e => by
  have h1 := (back_ok h hw hp).2
  have h2 := (back_ok h hw hq).2
  rw [← h1, ← h2, e]
theorem shift_ok {m a b fg : Nat} {w : Int} {p : Int × Int} {u v : Int} (h : RM m a b fg) (hw : w = 1 ∨ w = -1) (hA : okA m w u v) : (okP m a b fg w (p.1 - u, p.2 - v) ↔ okP m a b fg w p) ∧ carP m a b fg w (p.1 - u, p.2 - v) = ((carP m a b fg w p).1 - (carA m w u v).1, (carP m a b fg w p).2 - (carA m w u v).2) := by
  obtain ⟨x, y⟩ := p
  obtain ⟨l1, l2⟩ := lit3 (m : Int) ((m : Int) * m) a b fg x y u v (lits h.lo h.hi)
  have n1 : ¬ ((-1 : Int) = 1) := by omega
  rcases hw with rfl | rfl
  · unfold okA at hA
    unfold okP carP carA
    simp only [if_true] at hA
    simp only [if_true]
    obtain ⟨q1, q2, q3, q4⟩ := l1 hA
    exact ⟨by rw [q1, q2], Prod.ext q3 q4⟩
  · unfold okA at hA
    unfold okP carP carA
    simp only [if_neg n1] at hA
    simp only [if_neg n1]
    obtain ⟨q1, q2, q3⟩ := l2 hA
    exact ⟨by rw [q1], Prod.ext q2 q3⟩
theorem addA {m : Nat} {w u v u' v' : Int} (h2 : 2 ≤ m) (h9 : m ≤ 9) (hw : w = 1 ∨ w = -1) (h1 : okA m w u v) (h1' : okA m w u' v') : okA m w (u + u') (v + v') ∧ carA m w (u + u') (v + v') = ((carA m w u v).1 + (carA m w u' v').1, (carA m w u v).2 + (carA m w u' v').2) := by
  obtain ⟨l1, l2, _, _⟩ := lit4 (m : Int) ((m : Int) * m) u v u' v' (lits h2 h9)
  have n1 : ¬ ((-1 : Int) = 1) := by omega
  rcases hw with rfl | rfl
  · unfold okA at h1 h1' ⊢
    unfold carA
    simp only [if_true] at h1 h1'
    simp only [if_true]
    obtain ⟨q1, q2, q3⟩ := l1 h1 h1'
    exact ⟨q1, Prod.ext q2 q3⟩
  · unfold okA at h1 h1' ⊢
    unfold carA
    simp only [if_neg n1] at h1 h1'
    simp only [if_neg n1]
    obtain ⟨q1, q2, q3⟩ := l2 h1 h1'
    exact ⟨q1, Prod.ext q2 q3⟩
theorem backA {m : Nat} {w u v : Int} (h2 : 2 ≤ m) (h9 : m ≤ 9) (hw : w = 1 ∨ w = -1) (h1 : okA m w u v) : okA m w (-u) (-v) ∧ okA m (-w) (carA m w u v).1 (carA m w u v).2 ∧ carA m (-w) (carA m w u v).1 (carA m w u v).2 = (u, v) := by
  obtain ⟨_, _, l3, l4⟩ := lit4 (m : Int) ((m : Int) * m) u v 0 0 (lits h2 h9)
  have n1 : ¬ ((-1 : Int) = 1) := by omega
  rcases hw with rfl | rfl
  · unfold okA at h1 ⊢
    unfold carA
    simp only [if_true] at h1
    simp only [if_true, if_neg n1]
    obtain ⟨q1, q2, q3, q4, q5⟩ := l3 h1
    exact ⟨⟨q1, q2⟩, q3, Prod.ext q4 q5⟩
  · unfold okA at h1 ⊢
    unfold carA
    simp only [if_neg n1] at h1
    simp only [Int.neg_neg, if_true, if_neg n1]
    obtain ⟨q1, q2, q3, q4, q5⟩ := l4 h1
    exact ⟨q1, ⟨q2, q3⟩, Prod.ext q4 q5⟩
theorem passR_some {m a b fg : Nat} {w : Int} {f g : Fo} : passR m a b fg w f = some g ↔ okR m a b fg w f = true ∧ g = carR m a b fg w f := by
  unfold passR
  split
  · rename_i h; simp [h, eq_comm]
  · rename_i h; simp [h]
theorem passR_red {m a b fg : Nat} {w : Int} {f g : Fo} (h : RM m a b fg) (hw : w = 1 ∨ w = -1) (hf : Red f.1) (e : passR m a b fg w f = some g) : Red g.1 := by
  obtain ⟨ho, rfl⟩ := passR_some.mp e
  rw [carR_eq]
  exact mapP_red (carP_inj h hw) (okR_iff.mp ho).2 hf
theorem passR_E0 {m a b fg : Nat} {w : Int} : passR m a b fg w E0 = some E0 := by
  refine passR_some.mpr ⟨okR_iff.mpr ⟨?_, by intro e he; cases he⟩, ?_⟩
  · unfold okA E0
    split <;> simp
  · rw [carR_eq]
    unfold carA E0 mapP
    split <;> simp
theorem passR_mul {m a b fg : Nat} {w : Int} {f g f' g' : Fo} (h : RM m a b fg) (hw : w = 1 ∨ w = -1) (ef : passR m a b fg w f = some f') (eg : passR m a b fg w g = some g') : passR m a b fg w (mul f g) = some (mul f' g') := by
  obtain ⟨of, rfl⟩ := passR_some.mp ef
  obtain ⟨og, rfl⟩ := passR_some.mp eg
  obtain ⟨a1, p1⟩ := okR_iff.mp of
  obtain ⟨a2, p2⟩ := okR_iff.mp og
  obtain ⟨a3, c3⟩ := addA h.lo h.hi hw a1 a2
  have ps : ∀ e ∈ shf f.2.1 f.2.2 g.1, okP m a b fg w e.1 := fun e he => by
    obtain ⟨x, hx, rfl⟩ := List.mem_map.mp he
    exact (shift_ok h hw a1).1.mpr (p2 x hx)
  refine passR_some.mpr ⟨okR_iff.mpr ⟨a3, fun e he => ?_⟩, ?_⟩
  · rcases cat_mem he with hx | ⟨y, hy, hx⟩
    · exact p1 e hx
    · rw [← hx]; exact ps y hy
  · rw [carR_eq, carR_eq, carR_eq]
    unfold mul
    dsimp only
    rw [mapP_cat (carP_inj h hw) p1 _ ps, c3]
    have : mapP (carP m a b fg w) (shf f.2.1 f.2.2 g.1) = shf (carA m w f.2.1 f.2.2).1 (carA m w f.2.1 f.2.2).2 (mapP (carP m a b fg w) g.1) := by
      unfold mapP shf
      rw [List.map_map, List.map_map]
      refine List.map_congr_left fun e _ => ?_
      show (carP m a b fg w (e.1.1 - f.2.1, e.1.2 - f.2.2), e.2) = _
      rw [(shift_ok h hw a1).2]
      rfl
    rw [this]
theorem passR_back {m a b fg : Nat} {w : Int} {f g : Fo} (h : RM m a b fg) (hw : w = 1 ∨ w = -1) (e : passR m a b fg w f = some g) : passR m a b fg (-w) g = some f := by
  obtain ⟨of, rfl⟩ := passR_some.mp e
  obtain ⟨a1, p1⟩ := okR_iff.mp of
  obtain ⟨_, a2, a3⟩ := backA h.lo h.hi hw a1
  rw [carR_eq]
  refine passR_some.mpr ⟨okR_iff.mpr ⟨a2, fun e he => ?_⟩, ?_⟩
  · obtain ⟨x, hx, rfl⟩ := List.mem_map.mp he
    exact (back_ok h hw (p1 x hx)).1
  · rw [carR_eq]
    dsimp only
    rw [a3]
    have : mapP (carP m a b fg (-w)) (mapP (carP m a b fg w) f.1) = f.1 := by
      unfold mapP
      rw [List.map_map]
      conv => rhs; rw [← List.map_id f.1]
      refine List.map_congr_left fun e he => ?_
      show (carP m a b fg (-w) (carP m a b fg w e.1), e.2) = e
      rw [(back_ok h hw (p1 e he)).2]
    rw [this]
theorem passR_inv {m a b fg : Nat} {w : Int} {f g : Fo} (h : RM m a b fg) (hw : w = 1 ∨ w = -1) (hf : Red f.1) (e : passR m a b fg w f = some g) : passR m a b fg w (invF f) = some (invF g) := by
  have hg := passR_red h hw hf e
  obtain ⟨of, eg⟩ := passR_some.mp e
  obtain ⟨a1, p1⟩ := okR_iff.mp of
  obtain ⟨a2, _, _⟩ := backA h.lo h.hi hw a1
  have oi : okR m a b fg w (invF f) = true := okR_iff.mpr ⟨a2, fun e he => by
    obtain ⟨x, hx, rfl⟩ := List.mem_map.mp he
    have hx' : ∃ y ∈ f.1, y.1 = x.1 := by
      unfold turn ngt at hx
      obtain ⟨y, hy, rfl⟩ := List.mem_map.mp (List.mem_reverse.mp hx)
      exact ⟨y, hy, rfl⟩
    obtain ⟨y, hy, hyx⟩ := hx'
    have := (shift_ok (p := x.1) h hw a2).1.mpr (by rw [← hyx]; exact p1 y hy)
    exact this⟩
  have ei : passR m a b fg w (invF f) = some (carR m a b fg w (invF f)) := passR_some.mpr ⟨oi, rfl⟩
  have hi := passR_red h hw (invF_red hf) ei
  have m1 := passR_mul h hw e ei
  rw [mul_inv, passR_E0] at m1
  injection m1 with m1
  rw [ei, inv_of hg hi m1.symm]
/-! either side -/
theorem turned_turned (f : Fo) : turned (turned f) = f := by
  unfold turned
  rw [List.map_map]
  have : (f.1.map fun x => ((x.1.1, x.1.2), x.2)) = f.1 := by
    conv => rhs; rw [← List.map_id f.1]
    rfl
  exact Prod.ext this rfl
theorem sw_inj : ∀ p q : Int × Int, True → True → ((p.2, p.1) : Int × Int) = (q.2, q.1) → p = q := fun p q _ _ e => by
  injection e with e1 e2
  exact Prod.ext e2 e1
theorem turned_red {f : Fo} (hf : Red f.1) : Red (turned f).1 := mapP_red (φ := fun p => (p.2, p.1)) (S := fun _ => True) sw_inj (fun _ _ => trivial) hf
theorem turned_mul (f g : Fo) : turned (mul f g) = mul (turned f) (turned g) := by
  have h := mapP_cat (φ := fun p => (p.2, p.1)) (S := fun _ => True) sw_inj (s := f.1) (fun _ _ => trivial) (shf f.2.1 f.2.2 g.1) (fun _ _ => trivial)
  unfold turned mul
  dsimp only
  refine Prod.ext ?_ rfl
  show mapP (fun p => (p.2, p.1)) (cat f.1 (shf f.2.1 f.2.2 g.1)) = _
  rw [h]
  unfold mapP shf
  rw [List.map_map, List.map_map]
  rfl
structure PF (m : Nat) (rows : List Row) (i : Nat) : Prop where
  lt : i < rows.length
theorem rm_of {m i : Nat} {rows : List Row} {r : Row} (hM : MOk m rows) (hr : rows[i]? = some r) : RM m r.a r.b r.f ∧ RM m r.b r.a r.f := by
  have h := hM.ok r (List.mem_of_getElem? hr)
  exact ⟨⟨hM.lo, hM.hi, h.a, h.b⟩, ⟨hM.lo, hM.hi, h.b, h.a⟩⟩
theorem passF_some {m i : Nat} {rows : List Row} {f g : Fo} {w : Int} : passF m rows i f w = some g → ∃ r, rows[i]? = some r := by
  unfold passF
  cases h : rows[i]? with
  | none => intro e; cases e
  | some r => intro _; exact ⟨r, rfl⟩
theorem passF_right {m i : Nat} {rows : List Row} {r : Row} {f : Fo} {w : Int} (hr : rows[i]? = some r) (hs : r.s = true) : passF m rows i f w = passR m r.a r.b r.f w f := by
  unfold passF
  rw [hr]
  dsimp only
  rw [hs, if_pos rfl]
theorem passF_left {m i : Nat} {rows : List Row} {r : Row} {f : Fo} {w : Int} (hr : rows[i]? = some r) (hs : r.s = false) : passF m rows i f w = (passR m r.b r.a r.f w (turned f)).map turned := by
  unfold passF
  rw [hr]
  dsimp only
  rw [hs, if_neg (by decide)]
theorem mapT {o : Option Fo} {g : Fo} (h : o.map turned = some g) : o = some (turned g) := by
  cases o with
  | none => cases h
  | some x =>
    injection h with h
    rw [← h, turned_turned]
theorem passF_red {m i : Nat} {rows : List Row} {f g : Fo} {w : Int} (hM : MOk m rows) (hw : w = 1 ∨ w = -1) (hf : Red f.1) (e : passF m rows i f w = some g) : Red g.1 := by
  obtain ⟨r, hr⟩ := passF_some e
  obtain ⟨h1, h2⟩ := rm_of hM hr
  cases hs : r.s with
  | true => rw [passF_right hr hs] at e; exact passR_red h1 hw hf e
  | false =>
    rw [passF_left hr hs] at e
    have := passR_red h2 hw (turned_red hf) (mapT e)
    have := turned_red this
    rw [turned_turned] at this
    exact this
theorem passF_E0 {m i : Nat} {rows : List Row} {w : Int} (hi : i < rows.length) : passF m rows i E0 w = some E0 := by
  have hr := List.getElem?_eq_getElem hi
  cases hs : rows[i].s with
  | true => rw [passF_right hr hs, passR_E0]
  | false =>
    rw [passF_left hr hs]
    have : turned E0 = E0 := rfl
    rw [this, passR_E0]
    rfl
theorem passF_mul {m i : Nat} {rows : List Row} {f g f' g' : Fo} {w : Int} (hM : MOk m rows) (hw : w = 1 ∨ w = -1) (ef : passF m rows i f w = some f') (eg : passF m rows i g w = some g') : passF m rows i (mul f g) w = some (mul f' g') := by
  obtain ⟨r, hr⟩ := passF_some ef
  obtain ⟨h1, h2⟩ := rm_of hM hr
  cases hs : r.s with
  | true =>
    rw [passF_right hr hs] at ef eg ⊢
    exact passR_mul h1 hw ef eg
  | false =>
    rw [passF_left hr hs] at ef eg ⊢
    rw [turned_mul, passR_mul h2 hw (mapT ef) (mapT eg)]
    show some (turned (mul (turned f') (turned g'))) = _
    rw [turned_mul, turned_turned, turned_turned]
theorem passF_back {m i : Nat} {rows : List Row} {f g : Fo} {w : Int} (hM : MOk m rows) (hw : w = 1 ∨ w = -1) (e : passF m rows i f w = some g) : passF m rows i g (-w) = some f := by
  obtain ⟨r, hr⟩ := passF_some e
  obtain ⟨h1, h2⟩ := rm_of hM hr
  cases hs : r.s with
  | true =>
    rw [passF_right hr hs] at e ⊢
    exact passR_back h1 hw e
  | false =>
    rw [passF_left hr hs] at e ⊢
    rw [passR_back h2 hw (mapT e)]
    show some (turned (turned f)) = _
    rw [turned_turned]
theorem turned_inv {f : Fo} (hf : Red f.1) : turned (invF f) = invF (turned f) := by
  refine inv_of (turned_red hf) (turned_red (invF_red hf)) ?_
  rw [← turned_mul, mul_inv]
  rfl
theorem passF_inv {m i : Nat} {rows : List Row} {f g : Fo} {w : Int} (hM : MOk m rows) (hw : w = 1 ∨ w = -1) (hf : Red f.1) (e : passF m rows i f w = some g) : passF m rows i (invF f) w = some (invF g) := by
  have hg := passF_red hM hw hf e
  obtain ⟨r, hr⟩ := passF_some e
  obtain ⟨h1, h2⟩ := rm_of hM hr
  cases hs : r.s with
  | true =>
    rw [passF_right hr hs] at e ⊢
    exact passR_inv h1 hw hf e
  | false =>
    rw [passF_left hr hs] at e ⊢
    rw [turned_inv hf, passR_inv h2 hw (turned_red hf) (mapT e)]
    show some (turned (invF (turned g))) = _
    rw [← turned_inv hg, turned_turned]
end G
/-! Towers that are alike; words act. -/
namespace G
open Ev PySem L2 G17
abbrev St := List (Fo × Nat × Int)
/-- one tower is led into the other one by what goes past its hands -/
def Eqv (m : Nat) (rows : List Row) : St → Fo → St → Fo → Prop
  | [], f, [], g => f = g
  | (f, i, v) :: st, t, (f', i', v') :: st', t' => i = i' ∧ v = v' ∧ ∃ c d : Fo, Red c.1 ∧ passF m rows i c (-v) = some d ∧ t = mul c t' ∧ Eqv m rows st (mul f d) st' f'
  | _, _, _, _ => False
/-- all forms are forms, all hands are hands -/
def Good (k : Nat) (st : St) : Prop := ∀ x ∈ st, Red x.1.1 ∧ x.2.1 < k ∧ (x.2.2 = 1 ∨ x.2.2 = -1)
theorem Good.tail {k : Nat} {x : Fo × Nat × Int} {st : St} (h : Good k (x :: st)) : Good k st := fun y hy => h y (List.mem_cons_of_mem _ hy)
theorem Good.head {k : Nat} {x : Fo × Nat × Int} {st : St} (h : Good k (x :: st)) : Red x.1.1 ∧ x.2.1 < k ∧ (x.2.2 = 1 ∨ x.2.2 = -1) := h x (List.mem_cons_self ..)
theorem neg_way {v : Int} (h : v = 1 ∨ v = -1) : -v = 1 ∨ -v = -1 := by rcases h with rfl | rfl <;> simp
theorem Eqv.refl {m : Nat} {rows : List Row} : ∀ {st : St} {t : Fo}, Good rows.length st → Red t.1 → Eqv m rows st t st t
  | [], t, _, _ => rfl
  | (f, i, v) :: st, t, h, ht => by
    refine ⟨rfl, rfl, E0, E0, trivial, passF_E0 h.head.2.1, (E0_mul ht).symm, ?_⟩
    rw [mul_E0]
    exact Eqv.refl h.tail h.head.1
theorem Eqv.mulR {m : Nat} {rows : List Row} (hM : MOk m rows) : ∀ {st st' : St} {t t' x : Fo}, Eqv m rows st t st' t' → Red t'.1 → Red x.1 → Eqv m rows st (mul t x) st' (mul t' x)
  | [], [], t, t', x, h, _, _ => by
    have : t = t' := h
    subst this
    rfl
  | (f, i, v) :: st, (f', i', v') :: st', t, t', x, h, ht, hx => by
    obtain ⟨h1, h2, c, d, hc, hp, e, r⟩ := h
    exact ⟨h1, h2, c, d, hc, hp, by rw [e, mul_assoc hc ht], r⟩
  | [], _ :: _, _, _, _, h, _, _ => h.elim
  | _ :: _, [], _, _, _, h, _, _ => h.elim
theorem Eqv.red {m : Nat} {rows : List Row} : ∀ {st st' : St} {t t' : Fo}, Eqv m rows st t st' t' → Red t'.1 → Red t.1
  | [], [], t, t', h, ht => by
    have : t = t' := h
    rw [this]; exact ht
  | (f, i, v) :: st, (f', i', v') :: st', t, t', h, ht => by
    obtain ⟨_, _, c, d, hc, _, e, _⟩ := h
    rw [e]
    exact mul_red hc
  | [], _ :: _, _, _, h, _ => h.elim
  | _ :: _, [], _, _, h, _ => h.elim
theorem Eqv.trans {m : Nat} {rows : List Row} (hM : MOk m rows) : ∀ {a b c : St} {x y z : Fo}, Good rows.length a → Good rows.length b → Good rows.length c → Red z.1 → Eqv m rows a x b y → Eqv m rows b y c z → Eqv m rows a x c z
  | [], [], [], x, y, z, _, _, _, _, h1, h2 => by
    have e1 : x = y := h1
    have e2 : y = z := h2
    show x = z
    rw [e1, e2]
  | (f, i, v) :: a, (f', i', v') :: b, (f2, i2, v2) :: c, x, y, z, ga, gb, gc', hz, h1, h2 => by
    obtain ⟨rfl, rfl, c1, d1, r1, p1, e1, q1⟩ := h1
    obtain ⟨rfl, rfl, c2, d2, r2, p2, e2, q2⟩ := h2
    have hw := neg_way ga.head.2.2
    have rd1 := passF_red hM hw r1 p1
    have rd2 := passF_red hM hw r2 p2
    refine ⟨rfl, rfl, mul c1 c2, mul d1 d2, mul_red r1, passF_mul hM hw p1 p2, by rw [e1, e2, mul_assoc r1 r2], ?_⟩
    have q1' := Eqv.mulR hM q1 gb.head.1 rd2
    rw [mul_assoc ga.head.1 rd1] at q1'
    exact Eqv.trans hM ga.tail gb.tail gc'.tail gc'.head.1 q1' q2
  | [], [], _ :: _, _, _, _, _, _, _, _, _, h2 => h2.elim
  | [], _ :: _, _, _, _, _, _, _, _, _, h1, _ => h1.elim
  | _ :: _, [], _, _, _, _, _, _, _, _, h1, _ => h1.elim
  | _ :: _, _ :: _, [], _, _, _, _, _, _, _, _, h2 => h2.elim
theorem Eqv.symm {m : Nat} {rows : List Row} (hM : MOk m rows) : ∀ {a b : St} {x y : Fo}, Good rows.length a → Good rows.length b → Red y.1 → Eqv m rows a x b y → Eqv m rows b y a x
  | [], [], x, y, _, _, _, h => by
    have e : x = y := h
    show y = x
    exact e.symm
  | (f, i, v) :: a, (f', i', v') :: b, x, y, ga, gb, hy, h => by
    obtain ⟨rfl, rfl, c, d, r, p, e, q⟩ := h
    have hw := neg_way ga.head.2.2
    have rd := passF_red hM hw r p
    refine ⟨rfl, rfl, invF c, invF d, invF_red r, passF_inv hM hw r p, ?_, ?_⟩
    · rw [e, ← mul_assoc (invF_red r) r, inv_mul, E0_mul hy]
    · have q' := Eqv.mulR hM q gb.head.1 (invF_red rd)
      rw [mul_assoc ga.head.1 rd, mul_inv, mul_E0] at q'
      exact Eqv.symm hM ga.tail gb.tail (mul_red gb.head.1) q'
  | [], _ :: _, _, _, _, _, _, h => h.elim
  | _ :: _, [], _, _, _, _, _, h => h.elim
theorem step_red0 {f : Fo} {l : Le} {k : Int} (h : Red f.1) : Red (G17.step f (l, k)).1 := step_red h
theorem stepT_good {m : Nat} {rows : List Row} {T : Tw} {s : Sy} (h : Good rows.length T.1) (ht : Red T.2.1) (hs : s.ok rows.length) : Good rows.length (stepT m rows T s).1 ∧ Red (stepT m rows T s).2.1 := by
  obtain ⟨st, top⟩ := T
  cases s with
  | g l k => exact ⟨h, step_red ht⟩
  | h i w =>
    have push : Good rows.length ((top, i, w) :: st) ∧ Red E0.1 := ⟨fun x hx => by
      rcases List.mem_cons.mp hx with rfl | hx
      · exact ⟨ht, hs.1, hs.2⟩
      · exact h x hx, trivial⟩
    cases st with
    | nil => exact push
    | cons e rest =>
      obtain ⟨f, j, v⟩ := e
      unfold stepT
      dsimp only
      split
      · split
        · exact ⟨h.tail, mul_red h.head.1⟩
        · exact push
      · exact push
theorem runT_good {m : Nat} {rows : List Row} : ∀ (w : List Sy) (T : Tw), Good rows.length T.1 → Red T.2.1 → (∀ s ∈ w, s.ok rows.length) → Good rows.length (runT m rows T w).1 ∧ Red (runT m rows T w).2.1
  | [], T, h, ht, _ => ⟨h, ht⟩
  | s :: w, T, h, ht, hs => by
    obtain ⟨a, b⟩ := stepT_good (m := m) h ht (hs s (List.mem_cons_self ..))
    exact runT_good w _ a b (fun x hx => hs x (List.mem_cons_of_mem _ hx))
theorem step_eqv {m : Nat} {rows : List Row} {T U : Tw} {s : Sy} (hM : MOk m rows) (gT : Good rows.length T.1) (gU : Good rows.length U.1) (rU : Red U.2.1) (hs : s.ok rows.length) (h : Eqv m rows T.1 T.2 U.1 U.2) : Eqv m rows (stepT m rows T s).1 (stepT m rows T s).2 (stepT m rows U s).1 (stepT m rows U s).2 := by
  have rT := Eqv.red h rU
  obtain ⟨st, t⟩ := T
  obtain ⟨su, u⟩ := U
  dsimp only at *
  cases s with
  | g l k =>
    show Eqv m rows st (G17.step t (l, k)) su (G17.step u (l, k))
    rw [← mul_one l k rT, ← mul_one l k rU]
    exact Eqv.mulR hM h rU (step_red trivial)
  | h i w =>
    have push : Eqv m rows ((t, i, w) :: st) E0 ((u, i, w) :: su) E0 := by
      refine ⟨rfl, rfl, E0, E0, trivial, passF_E0 hs.1, (E0_mul (f := E0) trivial).symm, ?_⟩
      rw [mul_E0]
      exact h
    cases st with
    | nil =>
      cases su with
      | nil => exact push
      | cons _ _ => exact h.elim
    | cons e st =>
      cases su with
      | nil => exact h.elim
      | cons e' su =>
        obtain ⟨f, j, v⟩ := e
        obtain ⟨f', j', v'⟩ := e'
        have h0 := h
        obtain ⟨rfl, rfl, c, d, rc, p, ec, q⟩ := h
        unfold stepT
        dsimp only
        by_cases hj : j = i ∧ v = -w
        · rw [if_pos hj, if_pos hj]
          obtain ⟨rfl, hv⟩ := hj
          have hw := hs.2
          have p' : passF m rows j c w = some d := by rw [← p]; congr 1; omega
          have rd := passF_red hM hw rc p'
          cases hu : passF m rows j u w with
          | some g =>
            have ht : passF m rows j t w = some (mul d g) := by rw [ec]; exact passF_mul hM hw p' hu
            rw [ht]
            dsimp only
            have rg := passF_red hM hw rU hu
            have := Eqv.mulR hM q gU.head.1 rg
            rw [mul_assoc gT.head.1 rd] at this
            exact this
          | none =>
            have ht : passF m rows j t w = none := by
              cases hh : passF m rows j t w with
              | none => rfl
              | some g =>
                have e : u = mul (invF c) t := by rw [ec, ← mul_assoc (invF_red rc) rc, inv_mul, E0_mul rU]
                rw [e, passF_mul hM hw (passF_inv hM hw rc p') hh] at hu
                cases hu
            rw [ht]
            exact push
        · rw [if_neg hj, if_neg hj]
          exact push
theorem run_eqv {m : Nat} {rows : List Row} (hM : MOk m rows) : ∀ (w : List Sy) {T U : Tw}, Good rows.length T.1 → Good rows.length U.1 → Red U.2.1 → (∀ s ∈ w, s.ok rows.length) → Eqv m rows T.1 T.2 U.1 U.2 → Eqv m rows (runT m rows T w).1 (runT m rows T w).2 (runT m rows U w).1 (runT m rows U w).2
  | [], T, U, _, _, _, _, h => h
  | s :: w, T, U, gT, gU, rU, hs, h => by
    have hs0 := hs s (List.mem_cons_self ..)
    obtain ⟨a, _⟩ := stepT_good (m := m) gT (Eqv.red h rU) hs0
    obtain ⟨b, c⟩ := stepT_good (m := m) gU rU hs0
    exact run_eqv hM w a b c (fun x hx => hs x (List.mem_cons_of_mem _ hx)) (step_eqv hM gT gU rU hs0 h)
/-- no pinch within -/
def Rdc (m : Nat) (rows : List Row) : St → Prop
  | (f, i, v) :: (f2, i2, v2) :: st => ¬ (i2 = i ∧ v2 = -v ∧ (passF m rows i f v).isSome = true) ∧ Rdc m rows ((f2, i2, v2) :: st)
  | _ => True
/-- what a word does to each tower: it is put behind it -/
def Acts (m : Nat) (rows : List Row) (w : List Sy) (F : Fo) : Prop := ∀ st t, Good rows.length st → Rdc m rows st → Red t.1 → Eqv m rows (runT m rows (st, t) w).1 (runT m rows (st, t) w).2 st (mul t F)
theorem acts_nil {m : Nat} {rows : List Row} : Acts m rows [] E0 := fun st t g _ r => by
  rw [mul_E0]
  exact Eqv.refl g r
theorem acts_g {m : Nat} {rows : List Row} (l : Le) (k : Int) : Acts m rows [.g l k] (G17.step E0 (l, k)) := fun st t g _ r => by
  rw [mul_one l k r]
  exact Eqv.refl g (step_red r)
theorem acts_app {m : Nat} {rows : List Row} {u w : List Sy} {F H : Fo} (hM : MOk m rows) (hu : ∀ s ∈ u, s.ok rows.length) (hw : ∀ s ∈ w, s.ok rows.length) (rF : Red F.1) (h1 : Acts m rows u F) (h2 : Acts m rows w H) : Acts m rows (u ++ w) (mul F H) := fun st t g d r => by
  rw [runT_app]
  obtain ⟨g1, r1⟩ := runT_good (m := m) u (st, t) g r hu
  have e1 := h1 st t g d r
  have rF' : Red (mul t F).1 := mul_red r
  have e2 := run_eqv hM w g1 (U := (st, mul t F)) g rF' hw e1
  have e3 := h2 st (mul t F) g d rF'
  obtain ⟨g2, r2⟩ := runT_good (m := m) w (st, mul t F) g rF' hw
  obtain ⟨g3, r3⟩ := runT_good (m := m) w (runT m rows (st, t) u) g1 r1 hw
  rw [mul_assoc r rF] at e3
  exact Eqv.trans hM g3 g2 g (mul_red r) e2 e3
theorem acts_hand {m i : Nat} {rows : List Row} {w : List Sy} {F F' : Fo} {v : Int} (hM : MOk m rows) (hi : i < rows.length) (hv : v = 1 ∨ v = -1) (hw : ∀ s ∈ w, s.ok rows.length) (rF : Red F.1) (hp : passF m rows i F v = some F') (h : Acts m rows w F) : Acts m rows ([.h i (-v)] ++ w ++ [.h i v]) F' := fun st t g d r => by
  have rF' := passF_red hM hv rF hp
  have hs1 : (Sy.h i (-v)).ok rows.length := ⟨hi, neg_way hv⟩
  have hs2 : (Sy.h i v).ok rows.length := ⟨hi, hv⟩
  rw [runT_app, runT_app]
  show Eqv m rows (stepT m rows (runT m rows (stepT m rows (st, t) (.h i (-v))) w) (.h i v)).1 (stepT m rows (runT m rows (stepT m rows (st, t) (.h i (-v))) w) (.h i v)).2 st (mul t F')
  -- what becomes of it where the first hand is put on
  have pushed : Rdc m rows ((t, i, -v) :: st) → stepT m rows (st, t) (.h i (-v)) = ((t, i, -v) :: st, E0) → Eqv m rows (stepT m rows (runT m rows (stepT m rows (st, t) (.h i (-v))) w) (.h i v)).1 (stepT m rows (runT m rows (stepT m rows (st, t) (.h i (-v))) w) (.h i v)).2 st (mul t F') := fun d1 e => by
    have g1 : Good rows.length ((t, i, -v) :: st) := fun x hx => by
      rcases List.mem_cons.mp hx with rfl | hx
      · exact ⟨r, hi, neg_way hv⟩
      · exact g x hx
    rw [e]
    have a := h ((t, i, -v) :: st) E0 g1 d1 trivial
    rw [E0_mul rF] at a
    obtain ⟨g2, r2⟩ := runT_good (m := m) w ((t, i, -v) :: st, E0) g1 trivial hw
    have b := step_eqv hM g2 (U := ((t, i, -v) :: st, F)) g1 rF hs2 a
    have c : stepT m rows ((t, i, -v) :: st, F) (.h i v) = (st, mul t F') := by
      unfold stepT
      dsimp only
      rw [if_pos ⟨rfl, rfl⟩, hp]
    rw [c] at b
    exact b
  cases st with
  | nil => exact pushed trivial rfl
  | cons e rest =>
    obtain ⟨f, j, u⟩ := e
    by_cases hj : j = i ∧ u = - -v
    · cases hq : passF m rows i t (-v) with
      | none =>
        refine pushed ⟨fun x => ?_, d⟩ ?_
        · rw [hq] at x
          exact absurd x.2.2 (by decide)
        · unfold stepT
          dsimp only
          rw [if_pos hj, hq]
      | some g1 =>
        have e1 : stepT m rows ((f, j, u) :: rest, t) (.h i (-v)) = (rest, mul f g1) := by
          unfold stepT
          dsimp only
          rw [if_pos hj, hq]
        obtain ⟨rfl, hu⟩ := hj
        have hu' : u = v := by omega
        subst hu'
        rw [e1]
        have rg1 := passF_red hM (neg_way hv) r hq
        have rf := g.head.1
        have bk := passF_back hM (neg_way hv) hq
        rw [Int.neg_neg] at bk
        have d' : Rdc m rows rest := by
          cases rest with
          | nil => trivial
          | cons _ _ => exact d.2
        have a := h rest (mul f g1) g.tail d' (mul_red rf)
        obtain ⟨g2, r2⟩ := runT_good (m := m) w (rest, mul f g1) g.tail (mul_red rf) hw
        have b := step_eqv hM g2 (U := (rest, mul (mul f g1) F)) g.tail (mul_red (mul_red rf)) hs2 a
        have gF := passF_mul hM hv bk hp
        have c : stepT m rows (rest, mul (mul f g1) F) (.h j u) = ((mul (mul f g1) F, j, u) :: rest, E0) := by
          cases rest with
          | nil => rfl
          | cons e2 rest2 =>
            obtain ⟨f2, j2, u2⟩ := e2
            unfold stepT
            dsimp only
            by_cases hk : j2 = j ∧ u2 = -u
            · rw [if_pos hk]
              cases hz : passF m rows j (mul (mul f g1) F) u with
              | none => rfl
              | some z =>
                have e3 : f = mul (mul (mul f g1) F) (invF (mul g1 F)) := by
                  rw [mul_assoc rf rg1, mul_assoc rf (mul_red rg1), mul_inv, mul_E0]
                have := passF_mul hM hv hz (passF_inv hM hv (mul_red rg1) gF)
                rw [← e3] at this
                refine absurd ⟨hk.1, hk.2, ?_⟩ d.1
                rw [this]
                rfl
            · rw [if_neg hk]
        rw [c] at b
        obtain ⟨g3, r3⟩ := stepT_good (m := m) g2 r2 hs2
        have g4 : Good rows.length ((mul (mul f g1) F, j, u) :: rest) := fun x hx => by
          rcases List.mem_cons.mp hx with rfl | hx
          · exact ⟨mul_red (mul_red rf), hi, hv⟩
          · exact g.tail x hx
        refine Eqv.trans hM g3 g4 g (mul_red r) b ?_
        refine Eqv.symm hM g g4 trivial ?_
        refine ⟨rfl, rfl, mul t F', mul g1 F, mul_red r, ?_, (mul_E0 _).symm, ?_⟩
        · exact passF_mul hM (neg_way hv) hq (passF_back hM hv hp)
        · rw [← mul_assoc rf rg1]
          exact Eqv.refl g.tail (mul_red (mul_red rf))
    · refine pushed ?_ ?_
      · refine ⟨fun x => hj ⟨x.1, x.2.1⟩, d⟩
      · unfold stepT
        dsimp only
        rw [if_neg hj]
/-- a word that acts so has this one form for its tower -/
theorem acts_tw {m : Nat} {rows : List Row} {w : List Sy} {F : Fo} (rF : Red F.1) (h : Acts m rows w F) : tw m rows w = ([], F) := by
  have a := h [] E0 (fun x hx => by cases hx) trivial trivial
  rw [E0_mul rF] at a
  unfold tw
  generalize runT m rows ([], E0) w = T at *
  obtain ⟨st, t⟩ := T
  cases st with
  | nil =>
    have : t = F := a
    rw [this]
  | cons _ _ => exact a.elim
end G
/-! Powers within towers; towers are shown. -/
namespace G
open Ev PySem L2 G17
def tot (w : List Syl) : Nat := (w.map fun s => s.2.natAbs).sum
theorem tot_app (u w : List Syl) : tot (u ++ w) = tot u + tot w := by simp [tot]
theorem tot_one (s : Syl) : tot [s] = s.2.natAbs := by simp [tot]
theorem tot_cons (s : Syl) (w : List Syl) : tot (s :: w) = s.2.natAbs + tot w := by simp [tot]
theorem tot_mem {w : List Syl} {s : Syl} (h : s ∈ w) : s.2.natAbs ≤ tot w := by
  induction w with
  | nil => cases h
  | cons x w ih =>
    rw [tot_cons]
    rcases List.mem_cons.mp h with rfl | h
    · omega
    · have := ih h; omega
def ptot (s : List It) : Nat := (s.map fun e => e.2.natAbs).sum
theorem ptot_cons (e : It) (s : List It) : ptot (e :: s) = e.2.natAbs + ptot s := by simp [ptot]
theorem ptot_mem {s : List It} {e : It} (h : e ∈ s) : e.2.natAbs ≤ ptot s := by
  induction s with
  | nil => cases h
  | cons x w ih =>
    rw [ptot_cons]
    rcases List.mem_cons.mp h with rfl | h
    · omega
    · have := ih h; omega
theorem ptot_push (p : Int × Int) (k : Int) (s : List It) : ptot (push p k s) ≤ k.natAbs + ptot s := by
  cases s with
  | nil =>
    rw [push_nil]
    split
    · omega
    · rw [ptot_cons]; dsimp only; omega
  | cons e r =>
    rw [push_cons]
    split
    · split
      · rw [ptot_cons]; omega
      · rw [ptot_cons, ptot_cons]; dsimp only; omega
    · split
      · omega
      · rw [ptot_cons]; dsimp only; omega
theorem ptot_cat (s : List It) : ∀ r : List It, ptot (cat s r) ≤ ptot s + ptot r
  | [] => by rw [cat_nil]; omega
  | e :: r => by
    have h1 := ptot_push e.1 e.2 (cat s r)
    have h2 := ptot_cat s r
    rw [cat_cons, ptot_cons]
    omega
theorem ptot_map (s : List It) (φ : It → It) (h : ∀ e, (φ e).2 = e.2) : ptot (s.map φ) = ptot s := by
  induction s with
  | nil => rfl
  | cons e s ih => rw [List.map_cons, ptot_cons, ptot_cons, ih, h]
theorem ptot_shf (a b : Int) (s : List It) : ptot (shf a b s) = ptot s := ptot_map s _ fun e => rfl
theorem ptot_mul (f g : Fo) : ptot (mul f g).1 ≤ ptot f.1 + ptot g.1 := by
  have := ptot_cat f.1 (shf f.2.1 f.2.2 g.1)
  rw [ptot_shf] at this
  exact this
theorem ptot_turned (f : Fo) : ptot (turned f).1 = ptot f.1 := ptot_map f.1 _ fun e => rfl
theorem ptot_car (m a b fg : Nat) (w : Int) (f : Fo) : ptot (carR m a b fg w f).1 = ptot f.1 := ptot_map f.1 _ fun e => by unfold itCar; split <;> rfl
theorem ptot_pass {m i : Nat} {rows : List Row} {f g : Fo} {w : Int} (h : passF m rows i f w = some g) : ptot g.1 = ptot f.1 := by
  obtain ⟨r, hr⟩ := passF_some h
  rw [passF_eq hr] at h
  split at h
  · injection h with h
    subst h
    split
    · exact ptot_car ..
    · rw [ptot_turned, ptot_car, ptot_turned]
  · cases h
theorem ptot_step (f : Fo) (l : Le) (k : Int) : ptot (G17.step f (l, k)).1 ≤ ptot f.1 + k.natAbs := by
  obtain ⟨s, a, b⟩ := f
  cases l with
  | x => show ptot s ≤ _; dsimp only; omega
  | y => show ptot s ≤ _; dsimp only; omega
  | t =>
    have := ptot_push (-a, -b) k s
    show ptot (push (-a, -b) k s) ≤ _
    dsimp only
    omega
def twt (T : Tw) : Nat := ptot T.2.1 + (T.1.map fun x => ptot x.1.1).sum
theorem twt_step (m : Nat) (rows : List Row) (T : Tw) (s : Sy) : twt (stepT m rows T s) ≤ twt T + s.syl.2.natAbs := by
  obtain ⟨st, top⟩ := T
  cases s with
  | g l k =>
    have := ptot_step top l k
    show ptot (G17.step top (l, k)).1 + (st.map fun x => ptot x.1.1).sum ≤ ptot top.1 + (st.map fun x => ptot x.1.1).sum + k.natAbs
    omega
  | h i w =>
    have pushed : twt ((top, i, w) :: st, E0) ≤ twt (st, top) + w.natAbs := by
      unfold twt
      simp only [List.map_cons, List.sum_cons]
      show 0 + (ptot top.1 + (st.map fun x => ptot x.1.1).sum) ≤ _
      omega
    cases st with
    | nil => exact pushed
    | cons e rest =>
      obtain ⟨f, j, v⟩ := e
      unfold stepT
      dsimp only
      split
      · cases hp : passF m rows i top w with
        | none => exact pushed
        | some g =>
          have h1 := ptot_pass hp
          have h2 := ptot_mul f g
          unfold twt
          simp only [List.map_cons, List.sum_cons]
          show ptot (mul f g).1 + (rest.map fun x => ptot x.1.1).sum ≤ _
          omega
      · exact pushed
theorem twt_run (m : Nat) (rows : List Row) : ∀ (w : List Sy) (T : Tw), twt (runT m rows T w) ≤ twt T + tot (sW w)
  | [], T => by simp [runT, tot, sW]
  | s :: w, T => by
    have h1 := twt_step m rows T s
    have h2 := twt_run m rows w (stepT m rows T s)
    have e : tot (sW (s :: w)) = s.syl.2.natAbs + tot (sW w) := tot_cons s.syl (sW w)
    rw [runT_cons, e]
    omega
theorem tot_pw {w : List Sy} {B : Nat} (h : tot (sW w) < 2 ^ B) : Pw B w := fun l k hm => by
  have := tot_mem (w := sW w) (s := (l.s, k)) (List.mem_map.mpr ⟨_, hm, rfl⟩)
  dsimp only at this
  omega
/-! shown -/
theorem shs_le {α : Type} {f : α → Tr} {n c : Nat} : ∀ {l : List α}, (∀ q ∈ l, ∃ k, k ≤ c ∧ sh n (f q) = some k) → ∃ k, k ≤ l.length * (c + 2) ∧ shs n (l.map f) = some k
  | [], _ => ⟨0, by simp, rfl⟩
  | q :: l, h => by
    obtain ⟨k1, a1, a2⟩ := h q (List.mem_cons_self ..)
    obtain ⟨k2, b1, b2⟩ := shs_le (l := l) fun x hx => h x (List.mem_cons_of_mem _ hx)
    refine ⟨k1 + k2 + 2, ?_, ?_⟩
    · rw [List.length_cons, Nat.add_mul]; omega
    · rw [List.map_cons]; simp only [shs, a2, b2]
theorem short_h : ∀ i : Nat, i < 100 → (reprText (hL i)).length ≤ 10 := by decide +kernel
theorem shI {n : Nat} {i : Int} {B : Nat} (h : i.natAbs < 2 ^ B) (h0 : 0 < B) (hB : B ≤ 1900) : sh n (.int i) = some 1921 := by
  have : i.natAbs.log2 < 1920 := Nat.lt_of_lt_of_le (log2_le_of (k := B) h0 h) (by omega)
  unfold sh
  rw [if_pos this]
theorem sh_tup {n k : Nat} {l : List Tr} (h : shs n l = some k) : sh (n + 1) (.tup l) = some (k + 3) := by simp only [sh, h]
theorem shs_one {n a b : Nat} {t : Tr} {l : List Tr} (h1 : sh n t = some a) (h2 : shs n l = some b) : shs n (t :: l) = some (a + b + 2) := by simp only [shs, h1, h2]
theorem shs_no {n : Nat} : shs n [] = some 0 := rfl
theorem sh_It {n B : Nat} {e : It} (h1 : e.1.1.natAbs < 2 ^ B) (h2 : e.1.2.natAbs < 2 ^ B) (h3 : e.2.natAbs < 2 ^ B) (h0 : 0 < B) (hB : B ≤ 1900) : sh (n + 2) (G17.trP e) = some 5777 := by
  rw [tI_eq]
  exact sh_tup (shs_one (sh_tup (shs_one (shI h1 h0 hB) (shs_one (shI h2 h0 hB) shs_no))) (shs_one (shI h3 h0 hB) shs_no))
theorem sh_F {B n : Nat} {f : Fo} (h : FB B f) (hp : ptot f.1 < 2 ^ B) (hl : f.1.length ≤ n) (h0 : 0 < B) (hB : B ≤ 1900) : ∃ k, k ≤ n * 5779 + 3860 ∧ sh 4 (tF f) = some k := by
  have e := shs_map (f := G17.trP) (n := 2) (c := 5777) (l := f.1.reverse) fun x hx => by
    have hx := List.mem_reverse.mp hx
    have h1 := h.1 x hx
    have h2 := ptot_mem hx
    exact sh_It (n := 0) h1.1 h1.2 (by omega) h0 hB
  rw [List.length_reverse] at e
  have i1 := shI (n := 3) h.2.1 h0 hB
  have i2 := shI (n := 3) h.2.2 h0 hB
  rw [tF_eq]
  refine ⟨f.1.length * 5779 + 3 + (1921 + (1921 + 0 + 2) + 2) + 2 + 3, ?_, ?_⟩
  · have : f.1.length * 5779 ≤ n * 5779 := Nat.mul_le_mul_right _ hl
    omega
  · have h1 := sh_tup e
    have h2 := sh_tup (shs_one h1 (shs_one i1 (shs_one i2 shs_no)))
    exact h2
theorem sh_hand {i : Nat} {w : Int} (hi : i < 100) (hw : w = 1 ∨ w = -1) : ∃ k, k ≤ 2000 ∧ sh 4 (trS (hL i, w)) = some k := by
  have i1 := shI (n := 3) (i := w) (B := 2) (by rcases hw with rfl | rfl <;> decide) (by omega) (by omega)
  refine ⟨(reprText (hL i)).length + (1921 + 0 + 2) + 2 + 3, ?_, ?_⟩
  · have := short_h i hi; omega
  · have q : trS (hL i, w) = .tup [.str (hL i), .int w] := rfl
    rw [q]
    exact sh_tup (shs_one rfl (shs_one i1 shs_no))
theorem sum_mem {α : Type} (φ : α → Nat) : ∀ {l : List α} {x : α}, x ∈ l → φ x ≤ (l.map φ).sum
  | y :: l, x, h => by
    rw [List.map_cons, List.sum_cons]
    rcases List.mem_cons.mp h with rfl | h
    · omega
    · have := sum_mem φ h; omega
theorem repr_tw {B n k : Nat} {T : Tw} (h : TOk B n k T) (hk : k ≤ 80) (hp : twt T < 2 ^ B) (hn : n ≤ 200) (hs : T.1.length ≤ 200) (h0 : 0 < B) (hB : B ≤ 1900) : ∃ z, reprT (.tup (twL T)) = some (.str z) := by
  -- altogether
  have all : ∃ k, k ≤ 5779 * n + 6000 * (2 * T.1.length + 1) ∧ shs 4 (twL T) = some k := by
    have key : ∀ st : List (Fo × Nat × Int), (∀ x ∈ st, FB B x.1 ∧ x.2.1 < 100 ∧ (x.2.2 = 1 ∨ x.2.2 = -1) ∧ ptot x.1.1 < 2 ^ B) → ∀ top : Fo, FB B top → ptot top.1 < 2 ^ B → ∃ k, k ≤ 5779 * (top.1.length + (st.map fun x => x.1.1.length).sum) + 6000 * (2 * st.length + 1) ∧ shs 4 (twL (st, top)) = some k := by
      intro st
      induction st with
      | nil =>
        intro _ top ht hp
        obtain ⟨k, a, b⟩ := sh_F ht hp (Nat.le_refl _) h0 hB
        refine ⟨k + 0 + 2, ?_, ?_⟩
        · simp; omega
        · show shs 4 [tF top] = _
          simp only [shs, b]
      | cons x st ih =>
        intro hx top ht hp
        obtain ⟨f, j, v⟩ := x
        obtain ⟨x1, x2, x3, x4⟩ := hx (f, j, v) (List.mem_cons_self ..)
        obtain ⟨k1, a1, b1⟩ := ih (fun y hy => hx y (List.mem_cons_of_mem _ hy)) f x1 x4
        obtain ⟨k2, a2, b2⟩ := sh_F ht hp (Nat.le_refl _) h0 hB
        obtain ⟨k3, a3, b3⟩ := sh_hand (i := j) (by omega) x3
        have app : ∀ (l r : List Tr) (a b : Nat), shs 4 l = some a → shs 4 r = some b → shs 4 (l ++ r) = some (a + b) := by
          intro l
          induction l with
          | nil => intro r a b h1 h2; simp only [shs] at h1; cases h1; rw [List.nil_append, h2, Nat.zero_add]
          | cons t l ih =>
            intro r a b h1 h2
            simp only [shs] at h1
            split at h1
            · rename_i u w e1 e2
              cases h1
              rw [List.cons_append]
              simp only [shs, e1, ih r _ _ e2 h2]
              congr 1
              omega
            · cases h1
        refine ⟨k1 + (k3 + (k2 + 0 + 2) + 2), ?_, ?_⟩
        · simp only [List.map_cons, List.sum_cons, List.length_cons]
          omega
        · rw [twL_split]
          exact app _ _ _ _ b1 (shs_one b3 (shs_one b2 shs_no))
    obtain ⟨k, a, b⟩ := key T.1 (fun x hx => by
      obtain ⟨r1, r2, r3, r4⟩ := h.st x hx
      have q1 := sum_mem (fun x : Fo × Nat × Int => ptot x.1.1) hx
      unfold twt at hp
      exact ⟨r2, by omega, r4, by omega⟩) T.2 h.fb (by unfold twt at hp; omega)
    refine ⟨k, ?_, b⟩
    have := h.len
    have : 5779 * (T.2.1.length + (T.1.map fun x => x.1.1.length).sum) ≤ 5779 * n := Nat.mul_le_mul_left _ h.len
    omega
  obtain ⟨k, a, b⟩ := all
  refine repr_of (n := 5) (k := k + 3) (by simp only [sh, b]) (by omega) ?_
  have : 5779 * n ≤ 5779 * 200 := Nat.mul_le_mul_left _ hn
  have : 6000 * (2 * T.1.length + 1) ≤ 6000 * 401 := Nat.mul_le_mul_left _ (by omega)
  omega
end G
/-! Towers, empty or not, alike: as they are called. -/
namespace G
open Ev PySem L2 G17
theorem check_m {d m : Nat} {mem : List Ob} {rows : List Row} (hd : 1 ≤ d) : callF gc 64 fs d n_check_machine [trM m rows] mem = some (.non, mem) := by
  obtain ⟨d, rfl⟩ : ∃ d', d = d' + 1 := ⟨d - 1, by omega⟩
  rw [callS (fn := f_check_machine) rfl rfl rfl]
  simp [f_check_machine, b_check_machine, trM]
/-- words that are walked -/
structure WOk (m : Nat) (rows : List Row) (B : Nat) (w : List Sy) : Prop where
  ok : ∀ s ∈ w, s.ok rows.length
  pw : Pw B w
  lo : 8 ≤ B
  hi : B + 10 * w.length ≤ 200000
  len : w.length ≤ 10000
theorem tower_spec {d m B : Nat} {mem : List Ob} {rows : List Row} {w : List Sy} (hd : 8 ≤ d) (hM : MOk m rows) (h : WOk m rows B w) : callF gc 64 fs d n_tower [trM m rows, trW (sW w)] mem = some (.tup (twL (tw m rows w)), mem) := by
  obtain ⟨d, rfl⟩ : ∃ d', d = d' + 1 := ⟨d - 1, by omega⟩
  have e0 := check_m (d := d) (m := m) (mem := mem) (rows := rows) (by omega)
  have e1 := check_plain (d := d) (m := m) (mem := mem) (by omega) h.ok hM.len h.len
  have e2 := tower_of (d := d) (mem := mem) (by omega) hM h.ok h.lo h.hi h.pw h.len
  have pM : (trM m rows).pure = true := rfl
  have pW : (trW (sW w)).pure = true := rfl
  rw [callS (fn := f_tower) rfl rfl rfl]
  generalize twL (tw m rows w) = R at *
  generalize trW (sW w) = W at *
  generalize trM m rows = M at *
  generalize callF gc 64 fs d = cf at *
  simp [f_tower, b_tower, e0, e1, e2, pM, pW]
theorem tw_hand {m B : Nat} {rows : List Row} {w : List Sy} (hM : MOk m rows) (h : WOk m rows B w) : ∀ x ∈ (tw m rows w).1, x.2.1 < rows.length := fun x hx => ((runT_ok (n := 0) hM w B 0 ([], E0) h.lo (E0_ok B _) h.ok h.pw).1.st x hx).2.2.1
theorem empty_of {d m B : Nat} {mem : List Ob} {rows : List Row} {w : List Sy} (hd : 5 ≤ d) (hM : MOk m rows) (h : WOk m rows B w) : callF gc 64 fs d n_is_empty_of [trM m rows, trW (sW w)] mem = some (.bl (emp (tw m rows w)), mem) := by
  obtain ⟨d, rfl⟩ : ∃ d', d = d' + 1 := ⟨d - 1, by omega⟩
  have e2 := tower_of (d := d) (mem := mem) (by omega) hM h.ok h.lo h.hi h.pw h.len
  have e3 := eq_emp (T := tw m rows w) (k := rows.length) (tw_hand hM h) hM.len
  have o : opC2 .eq (.tup (twL (tw m rows w))) (.tup [.tup [.tup [], .int 0, .int 0]]) = eqT (.tup (twL (tw m rows w))) (.tup [.tup [.tup [], .int 0, .int 0]]) := rfl
  rw [e3] at o
  have pM : (trM m rows).pure = true := rfl
  have pW : (trW (sW w)).pure = true := rfl
  have dR : ∀ s : Sta, s.deref (.tup (twL (tw m rows w))) = .tup (twL (tw m rows w)) := fun s => rfl
  rw [callS (fn := f_is_empty_of) rfl rfl rfl]
  generalize emp (tw m rows w) = E at *
  generalize (Tr.tup (twL (tw m rows w))) = R at *
  generalize trW (sW w) = W at *
  generalize trM m rows = M at *
  generalize callF gc 64 fs d = cf at *
  simp [f_is_empty_of, b_is_empty_of, e2, o, pM, pW, dR]
theorem is_empty_spec {d m B : Nat} {mem : List Ob} {rows : List Row} {w : List Sy} (hd : 8 ≤ d) (hM : MOk m rows) (h : WOk m rows B w) : callF gc 64 fs d n_is_empty [trM m rows, trW (sW w)] mem = some (.bl (emp (tw m rows w)), mem) := by
  obtain ⟨d, rfl⟩ : ∃ d', d = d' + 1 := ⟨d - 1, by omega⟩
  have e0 := check_m (d := d) (m := m) (mem := mem) (rows := rows) (by omega)
  have e1 := check_plain (d := d) (m := m) (mem := mem) (by omega) h.ok hM.len h.len
  have e2 := empty_of (d := d) (mem := mem) (by omega) hM h
  have pM : (trM m rows).pure = true := rfl
  have pW : (trW (sW w)).pure = true := rfl
  rw [callS (fn := f_is_empty) rfl rfl rfl]
  generalize emp (tw m rows w) = R at *
  generalize trW (sW w) = W at *
  generalize trM m rows = M at *
  generalize callF gc 64 fs d = cf at *
  simp [f_is_empty, b_is_empty, e0, e1, e2, pM, pW]
theorem law_empty {d m B : Nat} {mem : List Ob} {rows : List Row} {w : List Sy} (hd : 5 ≤ d) (hM : MOk m rows) (h : WOk m rows B w) : callF gc 64 fs d n_law_is_empty [trO m rows, trW (sW w)] mem = some (.bl (emp (tw m rows w)), mem) := by
  obtain ⟨d, rfl⟩ : ∃ d', d = d' + 1 := ⟨d - 1, by omega⟩
  have e2 := law_tower (d := d) (mem := mem) (by omega) hM h.ok h.lo h.hi h.pw h.len
  have e3 := eq_emp (T := tw m rows w) (k := rows.length) (tw_hand hM h) hM.len
  have o : opC2 .eq (.tup (twL (tw m rows w))) (.tup [.tup [.tup [], .int 0, .int 0]]) = eqT (.tup (twL (tw m rows w))) (.tup [.tup [.tup [], .int 0, .int 0]]) := rfl
  rw [e3] at o
  have pM : (trO m rows).pure = true := rfl
  have pW : (trW (sW w)).pure = true := rfl
  have dR : ∀ s : Sta, s.deref (.tup (twL (tw m rows w))) = .tup (twL (tw m rows w)) := fun s => rfl
  rw [callS (fn := f_law_is_empty) rfl rfl rfl]
  generalize emp (tw m rows w) = E at *
  generalize (Tr.tup (twL (tw m rows w))) = R at *
  generalize trW (sW w) = W at *
  generalize trO m rows = M at *
  generalize callF gc 64 fs d = cf at *
  simp [f_law_is_empty, b_law_is_empty, e2, o, pM, pW, dR]
/-! undone -/
def Sy.neg : Sy → Sy
  | .g l k => .g l (-k)
  | .h i w => .h i (-w)
def undS (w : List Sy) : List Sy := (w.map Sy.neg).reverse
theorem und_sW (w : List Sy) : undoneW (sW w) = sW (undS w) := by
  unfold undoneW sW undS
  rw [← List.map_reverse, List.map_map, ← List.map_reverse, List.map_map]
  refine List.map_congr_left fun s _ => ?_
  cases s <;> rfl
theorem Sy.neg_ok {s : Sy} {n : Nat} (h : s.ok n) : s.neg.ok n := by
  cases s with
  | g l k => show -k ≠ 0; have : k ≠ 0 := h; omega
  | h i w => exact ⟨h.1, neg_way h.2⟩
theorem undS_ok {w : List Sy} {n : Nat} (h : ∀ s ∈ w, s.ok n) : ∀ s ∈ undS w, s.ok n := fun s hs => by
  obtain ⟨x, hx, rfl⟩ := List.mem_map.mp (List.mem_reverse.mp hs)
  exact Sy.neg_ok (h x hx)
theorem undS_len (w : List Sy) : (undS w).length = w.length := by simp [undS]
theorem undS_pw {w : List Sy} {B : Nat} (h : Pw B w) : Pw B (undS w) := fun l k hk => by
  obtain ⟨x, hx, e⟩ := List.mem_map.mp (List.mem_reverse.mp hk)
  cases x with
  | g l' k' =>
    injection e with e1 e2
    have := h l' k' hx
    omega
  | h i v => cases e
theorem sW_app (u w : List Sy) : sW (u ++ w) = sW u ++ sW w := by simp [sW]
theorem sW_len (w : List Sy) : (sW w).length = w.length := by simp [sW]
theorem trW_add {u w : List Syl} (h : u.length + w.length ≤ 100000) : opB .add (trW u) (trW w) = some (trW (u ++ w)) := by
  unfold trW
  rw [List.map_append]
  exact opB_addT (by rw [List.length_map, List.length_map, Ev.sizeLine_eq]; omega)
theorem Pw.app {B : Nat} {u w : List Sy} (h1 : Pw B u) (h2 : Pw B w) : Pw B (u ++ w) := fun l k hk => (List.mem_append.mp hk).elim (h1 l k) (h2 l k)
theorem ok_app {n : Nat} {u w : List Sy} (h1 : ∀ s ∈ u, s.ok n) (h2 : ∀ s ∈ w, s.ok n) : ∀ s ∈ u ++ w, s.ok n := fun s hs => (List.mem_append.mp hs).elim (h1 s) (h2 s)
theorem alike_spec {d m B : Nat} {mem : List Ob} {rows : List Row} {u w : List Sy} (hd : 8 ≤ d) (hM : MOk m rows) (hu : WOk m rows B u) (hw : WOk m rows B w) (hl : B + 10 * (u.length + w.length) ≤ 200000) (hl2 : u.length + w.length ≤ 10000) : callF gc 64 fs d n_alike [trM m rows, trW (sW u), trW (sW w)] mem = some (.bl (emp (tw m rows (u ++ undS w))), mem) := by
  obtain ⟨d, rfl⟩ : ∃ d', d = d' + 1 := ⟨d - 1, by omega⟩
  have e0 := check_m (d := d) (m := m) (mem := mem) (rows := rows) (by omega)
  have e1 := check_plain (d := d) (m := m) (mem := mem) (by omega) hu.ok hM.len hu.len
  have e2 := check_plain (d := d) (m := m) (mem := mem) (by omega) hw.ok hM.len hw.len
  have hx : WOk m rows B (u ++ undS w) := ⟨ok_app hu.ok (undS_ok hw.ok), hu.pw.app (undS_pw hw.pw), hu.lo, by rw [List.length_append, undS_len]; omega, by rw [List.length_append, undS_len]; omega⟩
  have pM : (trM m rows).pure = true := rfl
  have pU : (trW (sW u)).pure = true := rfl
  have pW : (trW (sW w)).pure = true := rfl
  have e3 : callF gc 64 fs d n_alike_of [trM m rows, trW (sW u), trW (sW w)] mem = some (.bl (emp (tw m rows (u ++ undS w))), mem) := by
    obtain ⟨d, rfl⟩ : ∃ d', d = d' + 1 := ⟨d - 1, by omega⟩
    have a1 := undone_of (d := d) (mem := mem) (w := sW w) (by omega) (by rw [sW_len]; have := hw.len; omega)
    rw [und_sW] at a1
    have a2 := empty_of (d := d) (mem := mem) (by omega) hM hx
    have lu : (sW u).length = u.length := sW_len u
    have lw : (sW (undS w)).length = w.length := by rw [sW_len, undS_len]
    have pX : (trW (sW (undS w))).pure = true := rfl
    rw [callS (fn := f_alike_of) rfl rfl rfl]
    rw [sW_app] at a2
    have q1 : trW (sW u) = .tup ((sW u).map trS) := rfl
    have q2 : trW (sW (undS w)) = .tup ((sW (undS w)).map trS) := rfl
    have q3 : trW (sW u ++ sW (undS w)) = .tup ((sW u).map trS ++ (sW (undS w)).map trS) := by unfold trW; rw [List.map_append]
    have l1 : ((sW u).map trS).length = u.length := by rw [List.length_map, lu]
    have l2 : ((sW (undS w)).map trS).length = w.length := by rw [List.length_map, lw]
    have lt : u.length + w.length ≤ 16777216 := by omega
    have pmap : ∀ (L : List Syl), ∀ t ∈ L.map trS, t.pure = true := fun L t ht => by
      obtain ⟨x, _, rfl⟩ := List.mem_map.mp ht
      rfl
    have p1 := pmap (sW u)
    have p2 := pmap (sW (undS w))
    clear pmap
    rw [q1] at *
    rw [q2] at a1
    rw [q3] at a2
    generalize emp (tw m rows (u ++ undS w)) = E at *
    generalize (sW (undS w)).map trS = A at *
    generalize (sW u).map trS = A2 at *
    generalize trW (sW w) = W at *
    generalize trM m rows = M at *
    generalize callF gc 64 fs d = cf at *
    simp [f_alike_of, b_alike_of, a1, a2, pM, pW, l1, l2, lt]
    rw [if_pos ⟨p1, p2⟩]
    simp [a2, pM]
  rw [callS (fn := f_alike) rfl rfl rfl]
  generalize emp (tw m rows (u ++ undS w)) = R at *
  generalize trW (sW w) = W at *
  generalize trW (sW u) = U at *
  generalize trM m rows = M at *
  generalize callF gc 64 fs d = cf at *
  simp [f_alike, b_alike, e0, e1, e2, e3, pM, pW, pU]
end G
/-! Ground words: freed, forms' words. -/
namespace G
open Ev PySem L2 G17
def gS (w : G17.W) : List Sy := w.map fun e => .g e.1 e.2
def gW (w : G17.W) : List Syl := w.map fun e => (e.1.s, e.2)
theorem sW_gS (w : G17.W) : sW (gS w) = gW w := by unfold sW gS gW; rw [List.map_map]; rfl
theorem gW_app (u w : G17.W) : gW (u ++ w) = gW u ++ gW w := by simp [gW]
theorem gS_app (u w : G17.W) : gS (u ++ w) = gS u ++ gS w := by simp [gS]
theorem gW_ok (w : G17.W) : OkW (gW w) := fun s hs => by
  obtain ⟨x, _, rfl⟩ := List.mem_map.mp hs
  exact le_ok x.1
theorem gS_ok {w : G17.W} {n : Nat} (h : ∀ e ∈ w, e.2 ≠ 0) : ∀ s ∈ gS w, s.ok n := fun s hs => by
  obtain ⟨x, hx, rfl⟩ := List.mem_map.mp hs
  exact h x hx
theorem step_lpush {v : G17.W} {l : Le} {k : Int} (hv : ∀ f ∈ v, f.2 ≠ 0) : stepF (gW v.reverse) (l.s, k) = gW (lpush (l, k) v).reverse := by
  cases v with
  | nil =>
    rw [lpush_nil]
    unfold stepF gW
    simp only [List.reverse_nil, List.map_nil, List.getLast?_nil]
    split <;> simp
  | cons e r =>
    obtain ⟨l', k'⟩ := e
    have h0 : k' ≠ 0 := hv (l', k') (List.mem_cons_self ..)
    have hl : (gW ((l', k') :: r).reverse).getLast? = some (l'.s, k') := by
      unfold gW
      rw [List.getLast?_map, List.getLast?_reverse]
      rfl
    have hd : (gW ((l', k') :: r).reverse).dropLast = gW r.reverse := by
      unfold gW
      rw [← List.map_dropLast, List.reverse_cons, List.dropLast_concat]
    have ap : ∀ (l : Le) (k : Int) (r : G17.W), gW ((l, k) :: r).reverse = gW r.reverse ++ [(l.s, k)] := fun l k r => by
      rw [List.reverse_cons, gW_app]
      rfl
    rw [lpush_cons]
    unfold stepF
    rw [hl]
    dsimp only
    rw [hd]
    by_cases hk : k = 0
    · rw [if_pos hk]
      by_cases h : l' = l
      · rw [if_pos h, if_neg (show ¬ (k + k' = 0) by omega), hk, Int.zero_add, h]
      · rw [if_neg h, if_pos hk]
    · rw [if_neg hk]
      by_cases h : l' = l
      · have hs : l'.s = l.s := by rw [h]
        rw [if_pos (show l'.s = l.s ∧ (gr l.s = true ∨ k' = -k) from ⟨hs, .inl (le_gr l)⟩), if_pos h]
        split
        · rfl
        · rw [ap]
      · have hs : ¬ l'.s = l.s := fun z => h ((Le.inj l' l).mp z)
        rw [if_neg (show ¬ (l'.s = l.s ∧ (gr l.s = true ∨ k' = -k)) from fun z => hs z.1), if_neg h, if_neg hk, ap l k]
theorem freedG_g : ∀ (w v : G17.W), (∀ f ∈ v, f.2 ≠ 0) → freedG (gW v.reverse) (gW w) = gW (w.foldl (fun s e => lpush e s) v).reverse
  | [], v, _ => rfl
  | e :: w, v, hv => by
    have q : gW (e :: w) = (e.1.s, e.2) :: gW w := rfl
    rw [q, freedG_cons, step_lpush hv, List.foldl_cons]
    exact freedG_g w _ (lpush_nz hv)
theorem freedW_g (w : G17.W) : freedW (gW w) = gW (freed w).reverse := freedG_g w [] (by intro f hf; cases hf)
theorem movedW_g (e : It) : movedW e.1.1 e.1.2 e.2 = gW (moved e) := by
  unfold movedW moved gW
  show List.filter (fun s : Syl => decide (s.2 ≠ 0)) (List.map (fun e : Le × Int => (e.1.s, e.2)) [(.y, -e.1.2), (.x, -e.1.1), (.t, e.2), (.x, e.1.1), (.y, e.1.2)]) = _
  rw [List.filter_map]
  rfl
def textW (f : Fo) : G17.W := (freed (backW f)).reverse
theorem run_text {f : Fo} (h : Red f.1) : run E0 (textW f) = f := run_freed_back h
theorem textW_nz (f : Fo) : ∀ e ∈ textW f, e.2 ≠ 0 := fun e he => freed_nz (w := backW f) (v := []) (by intro f hf; cases hf) e (List.mem_reverse.mp he)
theorem law_freedL {d : Nat} {mem : List Ob} {w : List Syl} (hd : 1 ≤ d) (hw : OkW w) (hl : w.length ≤ 100000) : callF gc 64 fs d n_law_freed [.lst (w.map trS)] mem = some (trW (freedW w), mem) := by
  obtain ⟨d, rfl⟩ : ∃ d', d = d' + 1 := ⟨d - 1, by omega⟩
  obtain ⟨t2, t3, e⟩ := lfree_loop (cf := callF gc 64 fs d) (mem := mem) (x0 := .val (.lst (w.map trS))) w [] .none .none (by simpa using hl) (by intro s hs; cases hs) hw (by intro x hx; cases hx)
  have hi : items 0 [.lst (w.map trS)] = some (w.map trS) := rfl
  have q2 : trW (freedW w) = .tup ((freedG [] w).map trS) := rfl
  rw [callS (fn := f_law_freed) rfl rfl rfl, q2]
  have q : (([] : List Syl).map trS) = [] := rfl
  rw [q] at e
  generalize (freedG [] w).map trS = R at *
  generalize w.map trS = W at *
  generalize callF gc 64 fs d = cf at *
  simp [f_law_freed, b_law_freed, hi, e, d_own]
theorem moveds_loop {d : Nat} {mem : List Ob} {x0 : Slot} (hd : 1 ≤ d) : ∀ (ts : List It) (acc : G17.W) (s2 s3 : Slot), acc.length + 5 * ts.length ≤ 100000 → ∃ t2 t3, forGo (.tp [.nm 2, .nm 3]) (exSs gc (callF gc 64 fs d) 64 l_law_form_word_0) (ts.map G17.trP) ⟨[x0, .own (.lst ((gW acc).map trS)), s2, s3], mem⟩ = .ok .next ⟨[x0, .own (.lst ((gW (acc ++ ts.flatMap moved)).map trS)), t2, t3], mem⟩
  | [], acc, s2, s3, _ => ⟨s2, s3, by simp [forGo]⟩
  | e :: ts, acc, s2, s3, hl => by
    rw [List.length_cons] at hl
    have hm : (moved e).length ≤ 5 := List.length_filter_le ..
    obtain ⟨t2, t3, ht⟩ := moveds_loop (d := d) (mem := mem) (x0 := x0) hd ts (acc ++ moved e) (.val (.tup [.int e.1.1, .int e.1.2])) (.val (.int e.2)) (by rw [List.length_append]; omega)
    refine ⟨t2, t3, ?_⟩
    have ha : asg (.tp [.nm 2, .nm 3]) (G17.trP e) [x0, .own (.lst ((gW acc).map trS)), s2, s3] = some [x0, .own (.lst ((gW acc).map trS)), .val (.tup [.int e.1.1, .int e.1.2]), .val (.int e.2)] := by simp [asg, asgs, G17.trP]
    have e1 := law_moved (d := d) (mem := mem) (a := e.1.1) (b := e.1.2) (n := e.2) hd
    rw [movedW_g] at e1
    have q : (gW (acc ++ moved e)).map trS = (gW acc).map trS ++ (gW (moved e)).map trS := by rw [gW_app, List.map_append]
    have q1 : trW (gW (moved e)) = .tup ((gW (moved e)).map trS) := rfl
    rw [q1] at e1
    have l1 : ((gW acc).map trS).length = acc.length := by simp [gW]
    have l2 : ((gW (moved e)).map trS).length ≤ 5 := by simp [gW]; exact hm
    have lt : ((gW acc).map trS).length + ((gW (moved e)).map trS).length ≤ 16777216 := by omega
    have step : exSs gc (callF gc 64 fs d) 64 l_law_form_word_0 ⟨[x0, .own (.lst ((gW acc).map trS)), .val (.tup [.int e.1.1, .int e.1.2]), .val (.int e.2)], mem⟩ = .ok .next ⟨[x0, .own (.lst ((gW (acc ++ moved e)).map trS)), .val (.tup [.int e.1.1, .int e.1.2]), .val (.int e.2)], mem⟩ := by
      rw [q]
      generalize (gW acc).map trS = A at *
      generalize (gW (moved e)).map trS = M at *
      generalize callF gc 64 fs d = cf at *
      simp [l_law_form_word_0, e1, lt]
    rw [List.map_cons, forGo_cons ha step, ht, List.flatMap_cons, List.append_assoc]
theorem law_form_word {d : Nat} {mem : List Ob} {f : Fo} (hd : 2 ≤ d) (hl : f.1.length ≤ 10000) : callF gc 64 fs d n_law_form_word [tF f] mem = some (trW (gW (textW f)), mem) := by
  obtain ⟨d, rfl⟩ : ∃ d', d = d' + 1 := ⟨d - 1, by omega⟩
  obtain ⟨t2, t3, e⟩ := moveds_loop (d := d) (mem := mem) (x0 := .val (tF f)) (by omega) f.1.reverse [] .none .none (by simp; omega)
  rw [List.nil_append] at e
  have fl : (f.1.reverse.flatMap moved).length ≤ 5 * f.1.length := by
    have : ∀ ts : List It, (ts.flatMap moved).length ≤ 5 * ts.length := by
      intro ts
      induction ts with
      | nil => simp
      | cons e ts ih =>
        have hm : (moved e).length ≤ 5 := List.length_filter_le ..
        rw [List.flatMap_cons, List.length_append, List.length_cons]
        omega
    have := this f.1.reverse
    rw [List.length_reverse] at this
    exact this
  have e2 := law_freedL (d := d) (mem := mem) (w := gW (backW f)) (by omega) (gW_ok _) (by unfold backW; simp [gW]; simp at fl; omega)
  rw [freedW_g] at e2
  have q : (gW (backW f)).map trS = (gW (f.1.reverse.flatMap moved)).map trS ++ [.tup [.str "x", .int f.2.1], .tup [.str "y", .int f.2.2]] := by unfold backW; rw [gW_app, List.map_append]; rfl
  rw [q] at e2
  have q0 : ((gW []).map trS) = [] := rfl
  rw [q0] at e
  have l1 : ((gW (f.1.reverse.flatMap moved)).map trS).length ≤ 5 * f.1.length := by simp only [gW, List.length_map]; exact fl
  have lt : ((gW (f.1.reverse.flatMap moved)).map trS).length + 2 ≤ 16777216 := by omega
  have hi : ∀ l : List Tr, items 0 [.tup l] = some l := fun l => rfl
  have ot : ∀ (l : List Tr) (y : Tr) (s2 : Sta), kIdx3 y s2 (.tup l) = Rs.of (idxT (.tup l) (s2.deref y)) s2 := fun l y s2 => rfl
  have q3 : textW f = (freed (backW f)).reverse := rfl
  rw [tF_eq] at *
  rw [callS (fn := f_law_form_word) rfl rfl rfl, q3]
  generalize (gW (f.1.reverse.flatMap moved)).map trS = A at *
  have pR : (trW (gW (freed (backW f)).reverse)).pure = true := rfl
  generalize trW (gW (freed (backW f)).reverse) = R at *
  generalize f.1.reverse.map G17.trP = F0 at *
  generalize callF gc 64 fs d = cf at *
  simp [f_law_form_word, b_law_form_word, hi, ot, e, e2, lt, pR, -kIdx3]
theorem law_form_undone {d : Nat} {mem : List Ob} {f : Fo} (hd : 3 ≤ d) (hf : Red f.1) (hl : f.1.length ≤ 10000) : callF gc 64 fs d n_law_form_undone [tF f] mem = some (tF (invF f), mem) := by
  obtain ⟨d, rfl⟩ : ∃ d', d = d' + 1 := ⟨d - 1, by omega⟩
  have e := fun x0 x1 => comp_each (f := compF (.tp [.nm 2, .nm 3]) [x0, x1, .none, .none] (kCond gc (callF gc 64 fs d) .nul) (kElt gc (callF gc 64 fs d) e_law_form_undone_0)) (tr := G17.trP) (t2 := fun e : It => G17.trP (e.1, -e.2)) (mem := mem) f.1 (fun z _ => by
    simp [compF, asg, asgs, G17.trP, e_law_form_undone_0, isNul]) (by omega)
  have e2 := law_times (d := d) (mem := mem) (f := ([], -f.2.1, -f.2.2)) (g := (turn f.1, 0, 0)) (by omega) trivial (by simp) (by simp [turn, ngt]; omega)
  have q1 : mul ([], -f.2.1, -f.2.2) (turn f.1, 0, 0) = invF f := by
    unfold mul invF
    dsimp only
    rw [cat_self (shf_red _ _ (red_turn hf)), Int.add_zero, Int.add_zero]
  rw [q1, tF_eq ([], -f.2.1, -f.2.2), tF_eq (turn f.1, 0, 0)] at e2
  have q2 : (turn f.1).reverse.map G17.trP = f.1.map fun e : It => G17.trP (e.1, -e.2) := by
    unfold turn ngt
    rw [List.reverse_reverse, List.map_map]
    rfl
  dsimp only at e2
  rw [q2] at e2
  have q3 : (([] : List It).reverse.map G17.trP) = [] := rfl
  rw [q3] at e2
  have hi : ∀ l : List Tr, items 0 [.tup l] = some l := fun l => rfl
  have ot : ∀ (l : List Tr) (y : Tr) (s2 : Sta), kIdx3 y s2 (.tup l) = Rs.of (idxT (.tup l) (s2.deref y)) s2 := fun l y s2 => rfl
  have rv : (f.1.reverse.map G17.trP).reverse = f.1.map G17.trP := by rw [← List.map_reverse, List.reverse_reverse]
  rw [callS (fn := f_law_form_undone) rfl rfl rfl, tF_eq f]
  have pR : (tF (invF f)).pure = true := rfl
  generalize tF (invF f) = R at *
  generalize (f.1.map fun e : It => G17.trP (e.1, -e.2)) = N at *
  generalize f.1.map G17.trP = F1 at *
  generalize f.1.reverse.map G17.trP = F0 at *
  generalize callF gc 64 fs d = cf at *
  simp [f_law_form_undone, b_law_form_undone, hi, ot, e, e2, rv, pR, wipeE, Slot.lock, -kIdx3]
/-! what they do -/
theorem run_mul {f : Fo} (hf : Red f.1) (w : G17.W) : run f w = mul f (run E0 w) := by
  obtain ⟨s, a, b⟩ := f
  exact run_cat hf a b w
theorem acts_gS {m : Nat} {rows : List Row} (hM : MOk m rows) : ∀ (w : G17.W), (∀ e ∈ w, e.2 ≠ 0) → Acts m rows (gS w) (run E0 w)
  | [], _ => acts_nil
  | e :: w, h => by
    have q : run E0 (e :: w) = mul (G17.step E0 e) (run E0 w) := run_mul (f := G17.step E0 e) (step_red trivial) w
    have q2 : gS (e :: w) = [.g e.1 e.2] ++ gS w := rfl
    rw [q, q2]
    exact acts_app hM (fun s hs => by rw [List.mem_singleton.mp hs]; exact h e (List.mem_cons_self ..)) (gS_ok fun x hx => h x (List.mem_cons_of_mem _ hx)) (step_red trivial) (acts_g e.1 e.2) (acts_gS hM w fun x hx => h x (List.mem_cons_of_mem _ hx))
theorem acts_text {m : Nat} {rows : List Row} {f : Fo} (hM : MOk m rows) (hf : Red f.1) : Acts m rows (gS (textW f)) f := by
  have := acts_gS hM (textW f) (textW_nz f)
  rw [run_text hf] at this
  exact this
theorem und_gS (w : G17.W) : undS (gS w) = gS (inv w) := by
  unfold undS gS inv
  rw [List.map_map, ← List.map_reverse, ← List.map_reverse, List.map_map]
  rfl
theorem acts_und_text {m : Nat} {rows : List Row} {f : Fo} (hM : MOk m rows) (hf : Red f.1) : Acts m rows (undS (gS (textW f))) (invF f) := by
  have h := acts_gS hM (inv (textW f)) (fun e he => by
    obtain ⟨x, hx, rfl⟩ := List.mem_map.mp (List.mem_reverse.mp he)
    have := textW_nz f x hx
    show -x.2 ≠ 0
    omega)
  have q : run E0 (inv (textW f)) = invF f := by
    have := run_undone (textW f)
    have r := run_text hf
    unfold E0 at r ⊢
    rw [this, r]
    rfl
  rw [q] at h
  rw [und_gS]
  exact h
end G
/-! Forms that a hand passes, drawn. -/
namespace G
open Ev PySem L2 G17
theorem any_number {d n k : Nat} {mem : List Ob} (hd : 3 ≤ d) (P : Pot mem n k) (hk : k < 1000000) : ∃ (v : Int) (mem' : List Ob), callF gc 64 fs d n_law_any_number [.ob n] mem = some (.int v, mem') ∧ v.natAbs < 2 ^ 20 ∧ Pot mem' n (k + 3) := by
  obtain ⟨d, rfl⟩ : ∃ d', d = d' + 1 := ⟨d - 1, by omega⟩
  obtain ⟨j, L, e1, j0, j1, P1⟩ := take_spec (d := d) (e := 0) (u := 40) P (by omega) (by omega) (by omega) (by omega)
  obtain ⟨j', L', e2, j0', j1', P2⟩ := take_spec (d := d) (e := 0) (u := 1000000) P1 (by omega) (by omega) (by omega) (by omega)
  generalize mem.set n (.lst L) = m1 at *
  generalize m1.set n (.lst L') = m2 at *
  obtain ⟨t, m3, ht, e3, P3⟩ := of_spec (d := d) (l := [.int 0, .int 1, .int (-1), .int 2, .int (-3), .int 5, .int (j - 20), .int (j' - 500000)]) P2 (by omega) (by simp) (by simp) (by simp) (by omega)
  have p6 : opB .pow (.int 10) (.int 6) = some (.int 1000000) := (opB_pow (by decide) (by decide)).trans rfl
  have hv : ∃ v : Int, t = .int v ∧ v.natAbs < 2 ^ 20 := by
    simp only [List.mem_cons, List.not_mem_nil, or_false] at ht
    rcases ht with rfl | rfl | rfl | rfl | rfl | rfl | rfl | rfl
    · exact ⟨_, rfl, by omega⟩
    · exact ⟨_, rfl, by omega⟩
    · exact ⟨_, rfl, by omega⟩
    · exact ⟨_, rfl, by omega⟩
    · exact ⟨_, rfl, by omega⟩
    · exact ⟨_, rfl, by omega⟩
    · exact ⟨_, rfl, by omega⟩
    · exact ⟨_, rfl, by omega⟩
  obtain ⟨v, rfl, hb⟩ := hv
  refine ⟨v, m3, ?_, hb, P3⟩
  rw [callS (fn := f_law_any_number) rfl rfl rfl]
  generalize callF gc 64 fs d = cf at *
  simp [f_law_any_number, b_law_any_number, e1, e2, e3, p6]
theorem pow4 {d n k : Nat} {mem : List Ob} (hd : 2 ≤ d) (P : Pot mem n k) (hk : k < 1000000) : ∃ (c : Int) (mem' : List Ob), callF gc 64 fs d n_law_of [.ob n, .lst [.int 1, .int (-1), .int 2, .int (-3)]] mem = some (.int c, mem') ∧ c.natAbs ≤ 3 ∧ Pot mem' n (k + 1) := by
  obtain ⟨t, m3, ht, e3, P3⟩ := of_spec (d := d) (l := [.int 1, .int (-1), .int 2, .int (-3)]) P (by omega) (by simp) (by simp) (by simp) hd
  simp only [List.mem_cons, List.not_mem_nil, or_false] at ht
  rcases ht with rfl | rfl | rfl | rfl
  · exact ⟨_, m3, e3, by omega, P3⟩
  · exact ⟨_, m3, e3, by omega, P3⟩
  · exact ⟨_, m3, e3, by omega, P3⟩
  · exact ⟨_, m3, e3, by omega, P3⟩
/-- the pair that is drawn -/
def prF (m : Nat) (r : Row) (w u v : Int) : Int × Int := if w = -1 then (if r.s then (u * m * m + r.f, v) else (u, v * m * m + r.f)) else (u * m + r.a, v * m + r.b)
/-- what each pair has to be -/
def okQ (m : Nat) (r : Row) (w : Int) (p : Int × Int) : Prop := if r.s then okP m r.a r.b r.f w p else okP m r.b r.a r.f w (p.2, p.1)
theorem prF_ok {m : Nat} {r : Row} {w u v : Int} (h2 : 2 ≤ m) (h9 : m ≤ 9) (sa : r.a < m) (sb : r.b < m) (hw : w = 1 ∨ w = -1) : okQ m r w (prF m r w u v) := by
  unfold okQ prF okP
  have n1 : ¬ ((-1 : Int) = 1) := by omega
  have n2 : ¬ ((1 : Int) = -1) := by omega
  have md : ∀ (x : Int) (c : Nat), c < m → (x * m + c) % (m : Int) = c := fun x c hc => by
    rw [Int.add_comm, Int.add_mul_emod_self_right, Int.emod_eq_of_lt (by omega) (by omega)]
  have md2 : ∀ (x : Int) (c : Nat), (x * m * m + c - c) % ((m : Int) * m) = 0 := fun x c => by
    rw [Int.add_sub_cancel, Int.mul_assoc]
    exact Int.mul_emod_left ..
  rcases hw with rfl | rfl
  · cases r.s with
    | true =>
      simp only [if_true, if_neg n2]
      exact ⟨md u r.a sa, md v r.b sb⟩
    | false =>
      simp only [if_true, if_neg n2, Bool.false_eq_true, if_false]
      exact ⟨md v r.b sb, md u r.a sa⟩
  · cases r.s with
    | true =>
      simp only [if_true, if_neg n1]
      exact md2 u r.f
    | false =>
      simp only [if_true, if_neg n1, Bool.false_eq_true, if_false]
      exact md2 v r.f
theorem mul_lt {x : Int} {m B : Nat} (h : x.natAbs < 2 ^ B) (h9 : m ≤ 9) : (x * m).natAbs < 2 ^ (B + 4) := by
  rw [Int.natAbs_mul, Int.natAbs_natCast]
  have : x.natAbs * m ≤ x.natAbs * 9 := Nat.mul_le_mul_left _ h9
  have p : 2 ^ (B + 4) = 2 ^ B * 16 := by rw [Nat.pow_add]
  omega
theorem prF_fb {m : Nat} {r : Row} {w u v : Int} (h9 : m ≤ 9) (sm : r.small) (hu : u.natAbs < 2 ^ 20) (hv : v.natAbs < 2 ^ 20) : (prF m r w u v).1.natAbs < 2 ^ 40 ∧ (prF m r w u v).2.natAbs < 2 ^ 40 := by
  have a1 := mul_lt hu h9
  have a2 := mul_lt hv h9
  have a3 := mul_lt a1 h9
  have a4 := mul_lt a2 h9
  obtain ⟨s1, s2, s3⟩ := sm
  unfold prF
  split
  · split
    · dsimp only; constructor <;> omega
    · dsimp only; constructor <;> omega
  · dsimp only; constructor <;> omega
theorem going_step {d m n k : Nat} {mem : List Ob} {r : Row} {x1 x2 x10 x15 s11 s12 s13 s14 : Slot} {acc : List It} {w : Int} (hd : 4 ≤ d) (h9 : m ≤ 9) (sm : r.small) (hw : w = 1 ∨ w = -1) (P : Pot mem n k) (hk : k < 900000) (hl : acc.length ≤ 1000) :
    ∃ (u v c : Int) (mem' : List Ob) (t14 : Slot), exSs gc (callF gc 64 fs d) 64 l_law_going_form_0 ⟨[.val (.ob n), x1, x2, .val (.int w), .val (.int m), .val (.int r.a), .val (.int r.b), .val (.int r.f), .val (.str (sd r.s)), .own (.lst (acc.map G17.trP)), x10, s11, s12, s13, s14, x15], mem⟩ = .ok .next ⟨[.val (.ob n), x1, x2, .val (.int w), .val (.int m), .val (.int r.a), .val (.int r.b), .val (.int r.f), .val (.str (sd r.s)), .own (.lst ((acc ++ [(prF m r w u v, c)]).map G17.trP)), x10, s11, .val (.int u), .val (.int v), t14, x15], mem'⟩ ∧ u.natAbs < 2 ^ 20 ∧ v.natAbs < 2 ^ 20 ∧ c.natAbs ≤ 3 ∧ Pot mem' n (k + 7) := by
  obtain ⟨u, m1, e1, hu, P1⟩ := any_number (d := d) (by omega) P (by omega)
  obtain ⟨v, m2, e2, hv, P2⟩ := any_number (d := d) (by omega) P1 (by omega)
  obtain ⟨c, m3, e3, hc, P3⟩ := pow4 (d := d) (by omega) P2 (by omega)
  refine ⟨u, v, c, m3, .val (.tup [.int (prF m r w u v).1, .int (prF m r w u v).2]), ?_, hu, hv, hc, P3⟩
  have lm : Lil (m : Int) := .of64 (by omega) (by omega)
  have u1 : opB .mul (.int u) (.int m) = some (.int (u * m)) := opB_mul (lilB hu (by omega) (by omega)) lm
  have u2 : opB .mul (.int v) (.int m) = some (.int (v * m)) := opB_mul (lilB hv (by omega) (by omega)) lm
  have u3 : opB .mul (.int (u * m)) (.int m) = some (.int (u * m * m)) := opB_mul (lilB (mul_lt hu h9) (by omega) (by omega)) lm
  have u4 : opB .mul (.int (v * m)) (.int m) = some (.int (v * m * m)) := opB_mul (lilB (mul_lt hv h9) (by omega) (by omega)) lm
  have al : (acc.map G17.trP).length < 16777216 := by rw [List.length_map]; omega
  have sr := sd_right r
  rw [List.map_append]
  have q : [((prF m r w u v, c) : It)].map G17.trP = [.tup [.tup [.int (prF m r w u v).1, .int (prF m r w u v).2], .int c]] := rfl
  rw [q]
  generalize acc.map G17.trP = A at *
  generalize callF gc 64 fs d = cf at *
  rcases hw with rfl | rfl
  · have q : prF m r 1 u v = (u * m + r.a, v * m + r.b) := by unfold prF; rw [if_neg (by omega)]
    rw [q]
    dsimp only
    generalize u * (m : Int) * m = Z1 at *
    generalize v * (m : Int) * m = Z2 at *
    generalize u * (m : Int) = Z3 at *
    generalize v * (m : Int) = Z4 at *
    simp [l_law_going_form_0, manyGo, e1, e2, e3, u1, u2, al]
  · cases hs : r.s with
    | true =>
      have q : prF m r (-1) u v = (u * m * m + r.f, v) := by unfold prF; rw [if_pos rfl, if_pos hs]
      rw [q]
      rw [hs] at sr
      dsimp only
      generalize u * (m : Int) * m = Z1 at *
      generalize v * (m : Int) * m = Z2 at *
      generalize u * (m : Int) = Z3 at *
      generalize v * (m : Int) = Z4 at *
      generalize sd true = S at *
      simp [l_law_going_form_0, manyGo, e1, e2, e3, u1, u2, u3, u4, al, sr, -opC2_eqS]
    | false =>
      have q : prF m r (-1) u v = (u, v * m * m + r.f) := by unfold prF; rw [if_pos rfl, if_neg (by rw [hs]; decide)]
      rw [q]
      rw [hs] at sr
      dsimp only
      generalize u * (m : Int) * m = Z1 at *
      generalize v * (m : Int) * m = Z2 at *
      generalize u * (m : Int) = Z3 at *
      generalize v * (m : Int) = Z4 at *
      generalize sd false = S at *
      simp [l_law_going_form_0, manyGo, e1, e2, e3, u1, u2, u3, u4, al, sr, -opC2_eqS]
/-- what the drawn items are -/
def ItG (m : Nat) (r : Row) (w : Int) (e : It) : Prop := okQ m r w e.1 ∧ e.1.1.natAbs < 2 ^ 40 ∧ e.1.2.natAbs < 2 ^ 40 ∧ e.2.natAbs ≤ 3
theorem going_loop {d m n : Nat} {r : Row} {x1 x2 x10 x15 : Slot} {w : Int} (hd : 4 ≤ d) (h2 : 2 ≤ m) (h9 : m ≤ 9) (sm : r.small) (sa : r.a < m) (sb : r.b < m) (hw : w = 1 ∨ w = -1) : ∀ (xs : List Tr) (acc : List It) (mem : List Ob) (k : Nat) (s11 s12 s13 s14 : Slot), Pot mem n k → k + 7 * xs.length < 900000 → acc.length + xs.length ≤ 1000 → (∀ x ∈ xs, x.pure = true) → (∀ e ∈ acc, ItG m r w e) →
    ∃ (acc' : List It) (mem' : List Ob) (t11 t12 t13 t14 : Slot), forGo (.nm 11) (exSs gc (callF gc 64 fs d) 64 l_law_going_form_0) xs ⟨[.val (.ob n), x1, x2, .val (.int w), .val (.int m), .val (.int r.a), .val (.int r.b), .val (.int r.f), .val (.str (sd r.s)), .own (.lst (acc.map G17.trP)), x10, s11, s12, s13, s14, x15], mem⟩ = .ok .next ⟨[.val (.ob n), x1, x2, .val (.int w), .val (.int m), .val (.int r.a), .val (.int r.b), .val (.int r.f), .val (.str (sd r.s)), .own (.lst (acc'.map G17.trP)), x10, t11, t12, t13, t14, x15], mem'⟩ ∧ acc'.length = acc.length + xs.length ∧ (∀ e ∈ acc', ItG m r w e) ∧ Pot mem' n (k + 7 * xs.length)
  | [], acc, mem, k, s11, s12, s13, s14, P, _, _, _, ha => ⟨acc, mem, s11, s12, s13, s14, by simp [forGo], rfl, ha, P⟩
  | x :: xs, acc, mem, k, s11, s12, s13, s14, P, hk, hl, hx, ha => by
    rw [List.length_cons] at hk hl
    obtain ⟨u, v, c, m1, t14, e1, hu, hv, hc, P1⟩ := going_step (x1 := x1) (x2 := x2) (x10 := x10) (x15 := x15) (s11 := .val x) (s12 := s12) (s13 := s13) (s14 := s14) hd h9 sm hw P (by omega) (show acc.length ≤ 1000 by omega)
    obtain ⟨acc', m2, u11, u12, u13, u14, e2, l2, g2, P2⟩ := going_loop (x1 := x1) (x2 := x2) (x10 := x10) (x15 := x15) hd h2 h9 sm sa sb hw xs (acc ++ [(prF m r w u v, c)]) m1 (k + 7) (.val x) (.val (.int u)) (.val (.int v)) t14 P1 (by omega) (by simp; omega) (fun y hy => hx y (List.mem_cons_of_mem _ hy)) (fun e he => by
      rcases List.mem_append.mp he with he | he
      · exact ha e he
      · rw [List.mem_singleton.mp he]
        obtain ⟨f1, f2⟩ := prF_fb (w := w) h9 sm hu hv
        exact ⟨prF_ok h2 h9 sa sb hw, f1, f2, hc⟩)
    refine ⟨acc', m2, u11, u12, u13, u14, ?_, by rw [l2, List.length_cons]; simp; omega, g2, P2.mono (by rw [List.length_cons]; omega)⟩
    have ha : asg (.nm 11) x [.val (.ob n), x1, x2, .val (.int w), .val (.int m), .val (.int r.a), .val (.int r.b), .val (.int r.f), .val (.str (sd r.s)), .own (.lst (acc.map G17.trP)), x10, s11, s12, s13, s14, x15] = some [.val (.ob n), x1, x2, .val (.int w), .val (.int m), .val (.int r.a), .val (.int r.b), .val (.int r.f), .val (.str (sd r.s)), .own (.lst (acc.map G17.trP)), x10, .val x, s12, s13, s14, x15] := by simp [asg, hx x (List.mem_cons_self ..)]
    rw [forGo_cons ha e1, e2]
end G
/-! A drawn form that a hand passes. -/
namespace G
open Ev PySem L2 G17
theorem pushL_cat (acc : List It) : pushL [] acc = cat [] acc.reverse := by unfold cat; rw [List.reverse_reverse]
theorem ptot_le {c : Nat} : ∀ {s : List It}, (∀ e ∈ s, e.2.natAbs ≤ c) → ptot s ≤ c * s.length
  | [], _ => by simp [ptot]
  | e :: s, h => by
    have h1 := h e (List.mem_cons_self ..)
    have h2 := ptot_le (s := s) fun x hx => h x (List.mem_cons_of_mem _ hx)
    rw [ptot_cons, List.length_cons, Nat.mul_succ]
    omega
theorem pushL_ok {m : Nat} {r : Row} {w : Int} {acc : List It} (h : ∀ e ∈ acc, ItG m r w e) (hl : acc.length ≤ 3) : Red (pushL [] acc) ∧ (pushL [] acc).length ≤ 3 ∧ ptot (pushL [] acc) ≤ 9 ∧ ∀ e ∈ pushL [] acc, okQ m r w e.1 ∧ e.1.1.natAbs < 2 ^ 40 ∧ e.1.2.natAbs < 2 ^ 40 := by
  rw [pushL_cat]
  refine ⟨cat_red (s := []) trivial _, ?_, ?_, fun e he => ?_⟩
  · have := cat_len [] acc.reverse
    simp at this
    omega
  · have h1 := ptot_cat [] acc.reverse
    have h2 : ptot acc.reverse ≤ 3 * acc.reverse.length := ptot_le fun e he => (h e (List.mem_reverse.mp he)).2.2.2
    rw [List.length_reverse] at h2
    have : ptot [] = 0 := rfl
    omega
  · rcases cat_mem he with he | ⟨x, hx, e2⟩
    · cases he
    · rw [← e2]
      have := h x (List.mem_reverse.mp hx)
      exact ⟨this.1, this.2.1, this.2.2.1⟩
structure GoalOk (m : Nat) (rows : List Row) (i : Nat) (w : Int) (f : Fo) : Prop where
  red : Red f.1
  fb : FB 40 f
  len : f.1.length ≤ 3
  pt : ptot f.1 ≤ 9
  pass : ∃ g, passF m rows i f w = some g
theorem pass_ok {m i : Nat} {rows : List Row} {r : Row} {w : Int} {f : Fo} (hr : rows[i]? = some r) (h1 : ∀ e ∈ f.1, okQ m r w e.1) (h2 : if r.s then okA m w f.2.1 f.2.2 else okA m w f.2.2 f.2.1) : ∃ g, passF m rows i f w = some g := by
  rw [passF_eq hr]
  have : okF m r w f = true := by
    unfold okF
    cases hs : r.s with
    | true =>
      rw [if_pos rfl]
      rw [hs, if_pos rfl] at h2
      refine okR_iff.mpr ⟨h2, fun e he => ?_⟩
      have := h1 e he
      unfold okQ at this
      rw [hs, if_pos rfl] at this
      exact this
    | false =>
      rw [if_neg (by decide)]
      rw [hs, if_neg (by decide)] at h2
      refine okR_iff.mpr ⟨h2, fun e he => ?_⟩
      obtain ⟨x, hx, rfl⟩ := List.mem_map.mp he
      have := h1 x hx
      unfold okQ at this
      rw [hs, if_neg (by decide)] at this
      exact this
  rw [this, if_pos rfl]
  exact ⟨_, rfl⟩
theorem fb_ends {v : Int} {m : Nat} (h : v.natAbs < 2 ^ 20) (h9 : m ≤ 9) : (v * m).natAbs < 2 ^ 40 ∧ (v * m * m).natAbs < 2 ^ 40 ∧ v.natAbs < 2 ^ 40 := by
  have a1 := mul_lt h h9
  have a2 := mul_lt a1 h9
  refine ⟨?_, ?_, ?_⟩ <;> omega
theorem mod0 (v : Int) (m : Nat) : v * m % (m : Int) = 0 ∧ v * m * m % ((m : Int) * m) = 0 := ⟨Int.mul_emod_left .., by rw [Int.mul_assoc]; exact Int.mul_emod_left ..⟩
theorem going_form {d m n k i : Nat} {mem : List Ob} {rows : List Row} {w : Int} (hd : 5 ≤ d) (hM : MOk m rows) (hi : i < rows.length) (hw : w = 1 ∨ w = -1) (P : Pot mem n k) (hk : k < 800000) :
    ∃ (f : Fo) (mem' : List Ob), callF gc 64 fs d n_law_going_form [.ob n, trO m rows, .int (i : Int), .int w] mem = some (tF f, mem') ∧ GoalOk m rows i w f ∧ Pot mem' n (k + 40) := by
  obtain ⟨d, rfl⟩ : ∃ d', d = d' + 1 := ⟨d - 1, by omega⟩
  have hr := List.getElem?_eq_getElem hi
  have ro := hM.ok _ (List.getElem_mem hi)
  generalize rows[i] = r at *
  have sm := ro.small hM.hi
  have h9 := hM.hi
  obtain ⟨v0, m1, e1, b0, P1⟩ := any_number (d := d) (by omega) P (by omega)
  obtain ⟨v1, m2, e2, b1, P2⟩ := any_number (d := d) (by omega) P1 (by omega)
  obtain ⟨j, L, e3, j0, j1, P3⟩ := take_spec (d := d) (e := 0) (u := 4) P2 (by omega) (by omega) (by omega) (by omega)
  generalize m2.set n (.lst L) = m3 at *
  have rl := rgT_len 0 j
  have rp := rgT_pure 0 j
  obtain ⟨acc, m4, t11, t12, t13, t14, e4, l4, g4, P4⟩ := going_loop (d := d) (m := m) (n := n) (r := r) (x1 := .val (trO m rows)) (x2 := .val (.int (i : Int))) (x10 := .own (.lst [.int v0, .int v1])) (x15 := .none) (w := w) (by omega) hM.lo h9 sm ro.a ro.b hw (rgT 0 j) [] m3 _ .none .none .none .none P3 (by omega) (by simp; omega) (fun x hx => List.all_eq_true.mp rp x hx) (by intro e he; cases he)
  rw [List.map_nil] at e4
  simp only [List.length_nil] at l4
  obtain ⟨q1, q2, q3, q4⟩ := pushL_ok g4 (by omega)
  have e5 := same_moved (d := d) (mem := m4) (ts := acc) (by omega) (by omega)
  have lm : Lil (m : Int) := .of64 (by omega) (by omega)
  have u0 : opB .mul (.int v0) (.int m) = some (.int (v0 * m)) := opB_mul (lilB b0 (by omega) (by omega)) lm
  have u1 : opB .mul (.int v1) (.int m) = some (.int (v1 * m)) := opB_mul (lilB b1 (by omega) (by omega)) lm
  have u2 : opB .mul (.int (v0 * m)) (.int m) = some (.int (v0 * m * m)) := opB_mul (lilB (mul_lt b0 h9) (by omega) (by omega)) lm
  have u3 : opB .mul (.int (v1 * m)) (.int m) = some (.int (v1 * m * m)) := opB_mul (lilB (mul_lt b1 h9) (by omega) (by omega)) lm
  have hit : items 1 [.int j] = some (rgT 0 j) := by
    simp only [items]
    rw [if_pos (in62_of (by omega))]
  have c1 := trO_m m rows
  have c2 := trO_rows m rows
  have c3 := idx_row hr
  have lO : ∀ s : Sta, s.deref (trO m rows) = trO m rows := fun s => rfl
  have ob : ∀ (y : Tr) (s2 : Sta), kIdx3 y s2 (trO m rows) = Rs.of (idxT (trO m rows) (s2.deref y)) s2 := fun y s2 => rfl
  have ol : ∀ (l : List Tr) (y : Tr) (s2 : Sta), kIdx3 y s2 (.lst l) = Rs.of (idxT (.lst l) (s2.deref y)) s2 := fun l y s2 => rfl
  have pO : (trO m rows).pure = true := rfl
  have pR : (trRow r).pure = true := rfl
  have qR : trRow r = .tup [.int r.a, .int r.b, .int r.f, .str (sd r.s)] := rfl
  have sr := sd_right r
  obtain ⟨f0, f1, f2⟩ := fb_ends b0 h9
  obtain ⟨f3, f4, f5⟩ := fb_ends b1 h9
  obtain ⟨z0, z1⟩ := mod0 v0 m
  obtain ⟨z2, z3⟩ := mod0 v1 m
  have a0 : atI [Tr.int v0, .int v1] 0 = some (.int v0) := rfl
  have a1 : atI [Tr.int v0, .int v1] 1 = some (.int v1) := rfl
  have n20 : ixN 2 0 = some 0 := rfl
  have n21 : ixN 2 1 = some 1 := rfl
  have a2 : ∀ x y : Tr, atI [x, y] 0 = some x := fun _ _ => rfl
  have a3 : ∀ x y : Tr, atI [x, y] 1 = some y := fun _ _ => rfl
  have a4 : ∀ x y : Tr, idxT (.lst [x, y]) (.int 0) = some x := fun _ _ => rfl
  have a5 : ∀ x y : Tr, idxT (.lst [x, y]) (.int 1) = some y := fun _ _ => rfl
  have fin : ∀ (x y : Int), x.natAbs < 2 ^ 40 → y.natAbs < 2 ^ 40 → (if r.s then okA m w x y else okA m w y x) → callF gc 64 fs (d + 1) n_law_going_form [.ob n, trO m rows, .int (i : Int), .int w] mem = some (tF (pushL [] acc, x, y), m4) → ∃ (f : Fo) (mem' : List Ob), callF gc 64 fs (d + 1) n_law_going_form [.ob n, trO m rows, .int (i : Int), .int w] mem = some (tF f, mem') ∧ GoalOk m rows i w f ∧ Pot mem' n (k + 40) := fun x y hx hy hA e =>
    ⟨_, m4, e, ⟨q1, ⟨fun e he => (q4 e he).2, hx, hy⟩, q2, q3, pass_ok hr (fun e he => (q4 e he).1) hA⟩, P4.mono (by omega)⟩
  rw [qR] at c3
  rcases hw with rfl | rfl
  · refine fin (v0 * m) (v1 * m) f0 f3 ?_ ?_
    · unfold okA
      simp only [if_true]
      split <;> exact ⟨by assumption, by assumption⟩
    · rw [callS (fn := f_law_going_form) rfl rfl rfl, tF_eq]
      dsimp only
      generalize (pushL [] acc).reverse.map G17.trP = PL at *
      generalize acc.map G17.trP = AC at *
      generalize rgT 0 j = RG at *
      generalize rows.map trRow = RR at *
      generalize trO m rows = TO at *
      generalize v0 * (m : Int) * m = Z1 at *
      generalize v1 * (m : Int) * m = Z2 at *
      generalize v0 * (m : Int) = Z3 at *
      generalize v1 * (m : Int) = Z4 at *
      generalize callF gc 64 fs d = cf at *
      simp [f_law_going_form, b_law_going_form, manyGo, ownOb, d_own, asg, asgs, e1, e2, e3, e4, e5, u0, u1, hit, c1, c2, c3, lO, ob, ol, pO, -kIdx3]
  · cases hs : r.s with
    | true =>
      rw [hs] at sr
      refine fin (v0 * m * m) v1 f1 f5 ?_ ?_
      · unfold okA
        rw [if_pos hs, if_neg (by omega)]
        exact z1
      · rw [callS (fn := f_law_going_form) rfl rfl rfl, tF_eq]
        dsimp only
        rw [hs] at c3 e4
        generalize (pushL [] acc).reverse.map G17.trP = PL at *
        generalize acc.map G17.trP = AC at *
        generalize rgT 0 j = RG at *
        generalize rows.map trRow = RR at *
        generalize trO m rows = TO at *
        generalize v0 * (m : Int) * m = Z1 at *
        generalize v1 * (m : Int) * m = Z2 at *
        generalize v0 * (m : Int) = Z3 at *
        generalize v1 * (m : Int) = Z4 at *
        generalize sd true = SD at *
        generalize callF gc 64 fs d = cf at *
        simp [f_law_going_form, b_law_going_form, manyGo, ownOb, d_own, asg, asgs, e1, e2, e3, e4, e5, u0, u2, hit, c1, c2, c3, lO, ob, ol, pO, sr, a0, a1, n20, n21, a2, a3, a4, a5, -kIdx3, -opC2_eqS]
    | false =>
      rw [hs] at sr
      refine fin v0 (v1 * m * m) f2 f4 ?_ ?_
      · unfold okA
        rw [if_neg (by rw [hs]; decide), if_neg (by omega)]
        exact z3
      · rw [callS (fn := f_law_going_form) rfl rfl rfl, tF_eq]
        dsimp only
        rw [hs] at c3 e4
        generalize (pushL [] acc).reverse.map G17.trP = PL at *
        generalize acc.map G17.trP = AC at *
        generalize rgT 0 j = RG at *
        generalize rows.map trRow = RR at *
        generalize trO m rows = TO at *
        generalize v0 * (m : Int) * m = Z1 at *
        generalize v1 * (m : Int) * m = Z2 at *
        generalize v0 * (m : Int) = Z3 at *
        generalize v1 * (m : Int) = Z4 at *
        generalize sd false = SD at *
        generalize callF gc 64 fs d = cf at *
        simp [f_law_going_form, b_law_going_form, manyGo, ownOb, d_own, asg, asgs, e1, e2, e3, e4, e5, u1, u3, hit, c1, c2, c3, lO, ob, ol, pO, sr, a0, a1, n20, n21, a2, a3, a4, a5, -kIdx3, -opC2_eqS]
end G
/-! Nested pinches. -/
namespace G
open Ev PySem L2 G17
theorem tot_step (f : List Syl) (s : Syl) : tot (stepF f s) ≤ tot f + s.2.natAbs := by
  unfold stepF
  cases he : f.getLast? with
  | none =>
    dsimp only
    split
    · omega
    · rw [tot_app, tot_one]; omega
  | some e =>
    obtain ⟨ys, rfl⟩ := List.getLast?_eq_some_iff.mp he
    dsimp only
    rw [List.dropLast_concat]
    split
    · omega
    · split
      · split
        · rw [tot_app]; omega
        · rw [tot_app, tot_app, tot_one, tot_one]
          show tot ys + (s.2 + e.2).natAbs ≤ _
          omega
      · rw [tot_app (ys ++ [e]), tot_one]; omega
theorem tot_freed : ∀ (w f : List Syl), tot (freedG f w) ≤ tot f + tot w
  | [], f => by simp [freedG, tot]
  | s :: w, f => by
    rw [freedG_cons, tot_cons]
    have := tot_freed w (stepF f s)
    have := tot_step f s
    omega
theorem tot_filter (P : Syl → Bool) (w : List Syl) : tot (w.filter P) ≤ tot w := by
  induction w with
  | nil => simp
  | cons x w ih =>
    by_cases h : P x = true
    · rw [List.filter_cons_of_pos h, tot_cons, tot_cons]; omega
    · rw [List.filter_cons_of_neg h, tot_cons]; omega
theorem tot_moved (e : It) : tot (gW (moved e)) ≤ 2 * e.1.1.natAbs + 2 * e.1.2.natAbs + e.2.natAbs := by
  rw [← movedW_g]
  refine Nat.le_trans (tot_filter _ _) ?_
  simp only [tot_cons]
  show (-e.1.2).natAbs + ((-e.1.1).natAbs + (e.2.natAbs + (e.1.1.natAbs + (e.1.2.natAbs + tot [])))) ≤ _
  have : tot [] = 0 := rfl
  omega
theorem moveds_len (ts : List It) : (ts.flatMap moved).length ≤ 5 * ts.length := by
  induction ts with
  | nil => simp
  | cons e ts ih =>
    have hm : (moved e).length ≤ 5 := List.length_filter_le ..
    rw [List.flatMap_cons, List.length_append, List.length_cons]
    omega
theorem text_len (f : Fo) : (textW f).length ≤ 5 * f.1.length + 2 := by
  have h := freedG_len (gW (backW f)) []
  have e := freedW_g (backW f)
  have e2 : (gW (freed (backW f)).reverse).length = (freed (backW f)).reverse.length := by simp [gW]
  have e3 : (gW (backW f)).length = (f.1.reverse.flatMap moved).length + 2 := by simp [gW, backW]
  have e4 := moveds_len f.1.reverse
  rw [List.length_reverse] at e4
  unfold freedW at e
  rw [e, e2, e3] at h
  simp only [List.length_nil] at h
  show (freed (backW f)).reverse.length ≤ _
  omega
theorem tot_moveds {B : Nat} : ∀ ts : List It, (∀ e ∈ ts, e.1.1.natAbs < 2 ^ B ∧ e.1.2.natAbs < 2 ^ B) → tot (gW (ts.flatMap moved)) ≤ ts.length * (4 * 2 ^ B) + ptot ts
  | [], _ => by simp [gW, tot]
  | e :: ts, h => by
    have h1 := tot_moved e
    have h2 := tot_moveds ts fun x hx => h x (List.mem_cons_of_mem _ hx)
    obtain ⟨a, b⟩ := h e (List.mem_cons_self ..)
    rw [List.flatMap_cons, gW_app, tot_app, List.length_cons, ptot_cons, Nat.succ_mul]
    omega
theorem ptot_rev : ∀ s : List It, ptot s.reverse = ptot s := fun s => by
  unfold ptot
  rw [List.map_reverse, List.sum_reverse]
theorem text_tot {B n : Nat} {f : Fo} (h : FB B f) (hl : f.1.length ≤ n) : tot (gW (textW f)) ≤ n * (4 * 2 ^ B) + ptot f.1 + 2 * 2 ^ B := by
  have h1 := tot_freed (gW (backW f)) []
  have e := freedW_g (backW f)
  unfold freedW at e
  rw [e] at h1
  have h2 := tot_moveds f.1.reverse fun e he => h.1 e (List.mem_reverse.mp he)
  rw [List.length_reverse, ptot_rev] at h2
  have h3 : tot (gW (backW f)) = tot (gW (f.1.reverse.flatMap moved)) + (f.2.1.natAbs + (f.2.2.natAbs + 0)) := by
    unfold backW
    rw [gW_app, tot_app]
    rfl
  have h4 : f.1.length * (4 * 2 ^ B) ≤ n * (4 * 2 ^ B) := Nat.mul_le_mul_right _ hl
  have h5 := h.2
  have z : tot [] = 0 := rfl
  show tot (gW (freed (backW f)).reverse) ≤ _
  omega
theorem invF_fb {B : Nat} {f : Fo} (h : FB B f) : FB (B + 1) (invF f) := by
  have p : 2 ^ (B + 1) = 2 ^ B * 2 := Nat.pow_succ ..
  obtain ⟨h1, h2, h3⟩ := h
  refine ⟨fun e he => ?_, ?_, ?_⟩
  · obtain ⟨x, hx, rfl⟩ := List.mem_map.mp he
    have : ∃ y ∈ f.1, y.1 = x.1 := by
      unfold turn ngt at hx
      obtain ⟨y, hy, rfl⟩ := List.mem_map.mp (List.mem_reverse.mp hx)
      exact ⟨y, hy, rfl⟩
    obtain ⟨y, hy, e⟩ := this
    obtain ⟨a, b⟩ := h1 y hy
    rw [e] at a b
    dsimp only
    constructor <;> omega
  · show (-f.2.1).natAbs < _; omega
  · show (-f.2.2).natAbs < _; omega
theorem invF_len (f : Fo) : (invF f).1.length = f.1.length := by simp [invF, shf, turn, ngt]
theorem ptot_inv (f : Fo) : ptot (invF f).1 = ptot f.1 := by
  show ptot (shf _ _ (turn f.1)) = _
  rw [ptot_shf]
  unfold turn ngt
  rw [ptot_rev]
  unfold ptot
  rw [List.map_map]
  congr 1
  refine List.map_congr_left fun e _ => ?_
  show (-e.2).natAbs = _
  omega
/-- a word of nested pinches, and its form -/
structure NW (m : Nat) (rows : List Row) (L : Nat) (w : List Sy) (f : Fo) : Prop where
  ok : ∀ s ∈ w, s.ok rows.length
  acts : Acts m rows w f
  red : Red f.1
  fb : FB 49 f
  len : f.1.length ≤ 3
  pt : ptot f.1 ≤ 9
  wl : w.length ≤ 34 * L
  wm : L ≤ w.length
  wt : tot (sW w) ≤ L * 2 ^ 57
theorem nw_nil {m : Nat} {rows : List Row} : NW m rows 0 [] E0 := ⟨(by intro s hs; cases hs), acts_nil, trivial, E0_fb _, by simp [E0], by simp [E0, ptot], by simp, by simp, by simp [sW, tot]⟩
def nextW (i : Nat) (w : Int) (g f : Fo) (word : List Sy) : List Sy := [.h i (-w)] ++ gS (textW (mul g (invF f))) ++ word ++ [.h i w]
theorem nw_next {m i L : Nat} {rows : List Row} {w : Int} {g f g' : Fo} {word : List Sy} (hM : MOk m rows) (h : NW m rows L word f) (hi : i < rows.length) (hw : w = 1 ∨ w = -1) (hg : GoalOk m rows i w g) (hp : passF m rows i g w = some g') : NW m rows (L + 1) (nextW i w g f word) g' := by
  have ri := invF_red h.red
  have rA : Red (mul g (invF f)).1 := mul_red hg.red
  have nzA := textW_nz (mul g (invF f))
  have okA : ∀ s ∈ gS (textW (mul g (invF f))), s.ok rows.length := gS_ok nzA
  have e0 : mul (mul g (invF f)) f = g := by rw [mul_assoc hg.red ri, inv_mul, mul_E0]
  have ac := acts_app hM okA h.ok rA (acts_text hM rA) h.acts
  rw [e0] at ac
  have ac2 := acts_hand hM hi hw (ok_app okA h.ok) hg.red hp ac
  obtain ⟨gb, gl⟩ := passF_ok hM hi (by omega) hg.fb hp
  have gp := ptot_pass hp
  have l0 := hg.len
  have l1 := h.len
  have p0 := hg.pt
  have p1 := h.pt
  have fA : FB 51 (mul g (invF f)) := mul_fb (hg.fb.mono (by omega)) (invF_fb h.fb)
  have lA : (mul g (invF f)).1.length ≤ 6 := by
    have := mul_len g (invF f)
    rw [invF_len] at this
    omega
  have pA : ptot (mul g (invF f)).1 ≤ 18 := by
    have := ptot_mul g (invF f)
    rw [ptot_inv] at this
    omega
  have tl := text_len (mul g (invF f))
  have tt := text_tot fA lA
  have wl := h.wl
  have wt := h.wt
  refine ⟨?_, ?_, passF_red hM hw hg.red hp, gb, by omega, by omega, ?_, ?_, ?_⟩
  · unfold nextW
    refine ok_app (ok_app (ok_app ?_ okA) h.ok) ?_
    · intro s hs
      rw [List.mem_singleton.mp hs]
      exact ⟨hi, neg_way hw⟩
    · intro s hs
      rw [List.mem_singleton.mp hs]
      exact ⟨hi, hw⟩
  · unfold nextW
    rw [List.append_assoc [Sy.h i (-w)]]
    exact ac2
  · unfold nextW
    simp only [List.length_append, List.length_cons, List.length_nil, gS, List.length_map]
    omega
  · unfold nextW
    have := h.wm
    simp only [List.length_append, List.length_cons, List.length_nil, gS, List.length_map]
    omega
  · unfold nextW
    rw [sW_app, sW_app, sW_app, tot_app, tot_app, tot_app, sW_gS]
    have w1 : w.natAbs = 1 := by rcases hw with rfl | rfl <;> rfl
    have t1 : tot (sW [Sy.h i (-w)]) = 1 := by
      show (-w).natAbs + 0 = 1
      omega
    have t2 : tot (sW [Sy.h i w]) = 1 := by
      show w.natAbs + 0 = 1
      omega
    have pp : 2 ^ 57 = 2 ^ 51 * 64 := by decide +kernel
    have p51 : 1000 ≤ 2 ^ 51 := by decide +kernel
    rw [t1, t2, Nat.succ_mul]
    omega
theorem way2 {d n k : Nat} {mem : List Ob} (hd : 2 ≤ d) (P : Pot mem n k) (hk : k < 1000000) : ∃ (w : Int) (mem' : List Ob), callF gc 64 fs d n_law_of [.ob n, .lst [.int 1, .int (-1)]] mem = some (.int w, mem') ∧ (w = 1 ∨ w = -1) ∧ Pot mem' n (k + 1) := by
  obtain ⟨t, m3, ht, e3, P3⟩ := of_spec (d := d) (l := [.int 1, .int (-1)]) P (by omega) (by simp) (by simp) (by simp) hd
  simp only [List.mem_cons, List.not_mem_nil, or_false] at ht
  rcases ht with rfl | rfl
  · exact ⟨_, m3, e3, .inl rfl, P3⟩
  · exact ⟨_, m3, e3, .inr rfl, P3⟩
theorem row_at {d n k : Nat} {m : Nat} {rows : List Row} {mem : List Ob} (hd : 1 ≤ d) (hM : MOk m rows) (P : Pot mem n k) (hk : k < 1000000) : ∃ (i : Nat) (mem' : List Ob), callF gc 64 fs d n_law_take [.ob n, .int (rows.length : Int)] mem = some (.int (i : Int), mem') ∧ i < rows.length ∧ Pot mem' n (k + 1) := by
  have hl := hM.len
  have h0 : 0 < rows.length := List.length_pos_iff.mpr hM.ne
  obtain ⟨j, L, e1, j0, j1, P1⟩ := take_spec (d := d) (e := 0) (u := (rows.length : Int)) P (by omega) (by omega) (by omega) (by omega)
  refine ⟨j.toNat, _, ?_, by omega, P1⟩
  rw [e1]
  congr 3
  omega
theorem nested_step {d m n k L : Nat} {mem : List Ob} {rows : List Row} {word : List Sy} {f : Fo} {x2 s5 s6 s7 s8 s9 s10 : Slot} (hd : 6 ≤ d) (hM : MOk m rows) (h : NW m rows L word f) (h10 : L ≤ 10) (P : Pot mem n k) (hk : k < 700000) :
    ∃ (word' : List Sy) (f' : Fo) (mem' : List Ob) (t6 t7 t8 t9 t10 : Slot), exSs gc (callF gc 64 fs d) 64 l_law_nested_word_0 ⟨[.val (.ob n), .val (trO m rows), x2, .val (trW (sW word)), .val (tF f), s5, s6, s7, s8, s9, s10], mem⟩ = .ok .next ⟨[.val (.ob n), .val (trO m rows), x2, .val (trW (sW word')), .val (tF f'), s5, t6, t7, t8, t9, t10], mem'⟩ ∧ NW m rows (L + 1) word' f' ∧ Pot mem' n (k + 50) := by
  have hl := hM.len
  obtain ⟨i, m1, e1, hi, P1⟩ := row_at (d := d) (by omega) hM P (by omega)
  obtain ⟨w, m2, e2, hw, P2⟩ := way2 (d := d) (by omega) P1 (by omega)
  obtain ⟨g, m3, e3, hg, P3⟩ := going_form (d := d) (by omega) hM hi hw P2 (by omega)
  have e4 := law_hand (d := d) (i := i) (mem := m3) (by omega) (by omega)
  have l1 := h.len
  have l2 := hg.len
  have e5 := law_form_undone (d := d) (mem := m3) (f := f) (by omega) h.red (by omega)
  have e6 := law_times (d := d) (mem := m3) (f := g) (g := invF f) (by omega) hg.red (by omega) (by rw [invF_len]; omega)
  have e7 := law_form_word (d := d) (mem := m3) (f := mul g (invF f)) (by omega) (by have := mul_len g (invF f); rw [invF_len] at this; omega)
  obtain ⟨g', hp⟩ := hg.pass
  have e8 := law_passed (d := d) (mem := m3) (B := 40) (by omega) hM hi (by omega) hw (by omega) (by omega) hg.fb
  rw [hp] at e8
  have e8' : callF gc 64 fs d n_law_passed [trO m rows, .int i, tF g, .int w] m3 = some (tF g', m3) := e8
  have nx := nw_next hM h hi hw hg hp
  refine ⟨nextW i w g f word, g', m3, .val (.int i), .val (.int w), .val (tF g), .val (.str (hL i)), .val (trW (gW (textW (mul g (invF f))))), ?_, nx, P3.mono (by omega)⟩
  have wl := h.wl
  have tl := text_len (mul g (invF f))
  have ml := mul_len g (invF f)
  rw [invF_len] at ml
  have gl : (gW (textW (mul g (invF f)))).length ≤ 32 := by simp only [gW, List.length_map]; omega
  have sl : (sW word).length ≤ 340 := by rw [sW_len]; omega
  have a1 : opB .add (trW [(hL i, -w)]) (trW (gW (textW (mul g (invF f))))) = some (trW ([(hL i, -w)] ++ gW (textW (mul g (invF f))))) := trW_add (by simp; omega)
  have a2 : opB .add (trW ([(hL i, -w)] ++ gW (textW (mul g (invF f))))) (trW (sW word)) = some (trW ([(hL i, -w)] ++ gW (textW (mul g (invF f))) ++ sW word)) := trW_add (by simp; omega)
  have a3 : opB .add (trW ([(hL i, -w)] ++ gW (textW (mul g (invF f))) ++ sW word)) (trW [(hL i, w)]) = some (trW ([(hL i, -w)] ++ gW (textW (mul g (invF f))) ++ sW word ++ [(hL i, w)])) := trW_add (by simp; omega)
  have q : sW (nextW i w g f word) = [(hL i, -w)] ++ gW (textW (mul g (invF f))) ++ sW word ++ [(hL i, w)] := by
    unfold nextW
    rw [sW_app, sW_app, sW_app, sW_gS]
    rfl
  have t1 : trW [(hL i, -w)] = .tup [.tup [.str (hL i), .int (-w)]] := rfl
  have t2 : trW [(hL i, w)] = .tup [.tup [.str (hL i), .int w]] := rfl
  rw [t1] at a1
  rw [t2] at a3
  have c2 := trO_rows m rows
  have len : (rows.map trRow).length = rows.length := List.length_map ..
  have lO : ∀ s : Sta, s.deref (trO m rows) = trO m rows := fun s => rfl
  have ob : ∀ (y : Tr) (s2 : Sta), kIdx3 y s2 (trO m rows) = Rs.of (idxT (trO m rows) (s2.deref y)) s2 := fun y s2 => rfl
  have pO : (trO m rows).pure = true := rfl
  have pW : ∀ w : List Syl, (trW w).pure = true := fun w => rfl
  have pF : ∀ w : Fo, (tF w).pure = true := fun w => rfl
  rw [q]
  have dW : ∀ (w : List Syl) (s : Sta), s.deref (trW w) = trW w := fun w s => rfl
  have d1 := dW (sW word)
  have d2 := dW (gW (textW (mul g (invF f))))
  have d3 := dW ([(hL i, -w)] ++ gW (textW (mul g (invF f))))
  have d4 := dW ([(hL i, -w)] ++ gW (textW (mul g (invF f))) ++ sW word)
  clear dW
  have p1 := pW (sW word)
  have p2 := pW (gW (textW (mul g (invF f))))
  have p3 := pW ([(hL i, -w)] ++ gW (textW (mul g (invF f))))
  have p4 := pW ([(hL i, -w)] ++ gW (textW (mul g (invF f))) ++ sW word)
  have p5 := pW ([(hL i, -w)] ++ gW (textW (mul g (invF f))) ++ sW word ++ [(hL i, w)])
  have pf1 := pF f
  have pf2 := pF g
  have pf3 := pF g'
  have pf4 := pF (invF f)
  have pf5 := pF (mul g (invF f))
  clear nx P1 P2 P3 t1 t2 e8 tl ml gl sl q pW pF hp
  generalize trW ([(hL i, -w)] ++ gW (textW (mul g (invF f))) ++ sW word ++ [(hL i, w)]) = W5 at *
  generalize trW ([(hL i, -w)] ++ gW (textW (mul g (invF f))) ++ sW word) = W4 at *
  generalize trW ([(hL i, -w)] ++ gW (textW (mul g (invF f)))) = W3 at *
  generalize trW (gW (textW (mul g (invF f)))) = W2 at *
  generalize trW (sW word) = W1 at *
  generalize tF (mul g (invF f)) = F5 at *
  generalize tF (invF f) = F4 at *
  generalize tF g' = F3 at *
  generalize tF g = F2 at *
  generalize tF f = F1 at *
  generalize rows.map trRow = RR at *
  generalize trO m rows = TO at *
  generalize hL i = HH at *
  generalize callF gc 64 fs d = cf at *
  simp [l_law_nested_word_0, manyGo, e1, e2, e3, e4, e5, e6, e7, e8', a1, a2, a3, c2, len, lO, ob, pO, d1, d2, d3, d4, p1, p2, p3, p4, p5, pf1, pf2, pf3, pf4, pf5, -kIdx3]
end G
/-! Nested words, bent ones. -/
namespace G
open Ev PySem L2 G17
theorem nested_loop {d m n : Nat} {rows : List Row} {x2 : Slot} (hd : 6 ≤ d) (hM : MOk m rows) : ∀ (xs : List Tr) (L : Nat) (word : List Sy) (f : Fo) (mem : List Ob) (k : Nat) (s5 s6 s7 s8 s9 s10 : Slot), NW m rows L word f → L + xs.length ≤ 10 → Pot mem n k → k + 50 * xs.length < 700000 → (∀ x ∈ xs, x.pure = true) →
    ∃ (word' : List Sy) (f' : Fo) (mem' : List Ob) (t5 t6 t7 t8 t9 t10 : Slot), forGo (.nm 5) (exSs gc (callF gc 64 fs d) 64 l_law_nested_word_0) xs ⟨[.val (.ob n), .val (trO m rows), x2, .val (trW (sW word)), .val (tF f), s5, s6, s7, s8, s9, s10], mem⟩ = .ok .next ⟨[.val (.ob n), .val (trO m rows), x2, .val (trW (sW word')), .val (tF f'), t5, t6, t7, t8, t9, t10], mem'⟩ ∧ NW m rows (L + xs.length) word' f' ∧ Pot mem' n (k + 50 * xs.length)
  | [], L, word, f, mem, k, s5, s6, s7, s8, s9, s10, h, _, P, _, _ => ⟨word, f, mem, s5, s6, s7, s8, s9, s10, by simp [forGo], h, P⟩
  | x :: xs, L, word, f, mem, k, s5, s6, s7, s8, s9, s10, h, hL, P, hk, hx => by
    rw [List.length_cons] at hL hk
    obtain ⟨w1, f1, m1, t6, t7, t8, t9, t10, e1, h1, P1⟩ := nested_step (x2 := x2) (s5 := .val x) (s6 := s6) (s7 := s7) (s8 := s8) (s9 := s9) (s10 := s10) hd hM h (by omega) P (by omega)
    obtain ⟨w2, f2, m2, u5, u6, u7, u8, u9, u10, e2, h2, P2⟩ := nested_loop (x2 := x2) hd hM xs (L + 1) w1 f1 m1 (k + 50) (.val x) t6 t7 t8 t9 t10 h1 (by omega) P1 (by omega) (fun y hy => hx y (List.mem_cons_of_mem _ hy))
    refine ⟨w2, f2, m2, u5, u6, u7, u8, u9, u10, ?_, by rw [List.length_cons, show L + (xs.length + 1) = L + 1 + xs.length by omega]; exact h2, P2.mono (by rw [List.length_cons]; omega)⟩
    have ha : asg (.nm 5) x [.val (.ob n), .val (trO m rows), x2, .val (trW (sW word)), .val (tF f), s5, s6, s7, s8, s9, s10] = some [.val (.ob n), .val (trO m rows), x2, .val (trW (sW word)), .val (tF f), .val x, s6, s7, s8, s9, s10] := by simp [asg, hx x (List.mem_cons_self ..)]
    rw [forGo_cons ha e1, e2]
theorem nested_word {d m n k L : Nat} {rows : List Row} {mem : List Ob} (hd : 7 ≤ d) (hM : MOk m rows) (hL : L ≤ 10) (P : Pot mem n k) (hk : k < 600000) :
    ∃ (word : List Sy) (f : Fo) (mem' : List Ob), callF gc 64 fs d n_law_nested_word [.ob n, trO m rows, .int (L : Int)] mem = some (.tup [trW (sW word), tF f], mem') ∧ NW m rows L word f ∧ Pot mem' n (k + 500) := by
  obtain ⟨d, rfl⟩ : ∃ d', d = d' + 1 := ⟨d - 1, by omega⟩
  have rl := rgT_len 0 (L : Int)
  have rp := rgT_pure 0 (L : Int)
  have e0 : (rgT 0 (L : Int)).length = L := by rw [rl]; omega
  obtain ⟨w, f, m1, t5, t6, t7, t8, t9, t10, e1, h1, P1⟩ := nested_loop (d := d) (n := n) (x2 := .val (.int (L : Int))) (by omega) hM (rgT 0 (L : Int)) 0 [] E0 mem k .none .none .none .none .none .none nw_nil (by omega) P (by omega) (fun x hx => List.all_eq_true.mp rp x hx)
  rw [e0] at h1 P1
  refine ⟨w, f, m1, ?_, by rw [Nat.zero_add] at h1; exact h1, P1.mono (by omega)⟩
  have hit : items 1 [.int (L : Int)] = some (rgT 0 (L : Int)) := by
    simp only [items]
    rw [if_pos (in62_of (by omega))]
  have q0 : trW (sW []) = .tup [] := rfl
  have q1 : tF E0 = .tup [.tup [], .int 0, .int 0] := rfl
  rw [q0, q1] at e1
  have pW : (trW (sW w)).pure = true := rfl
  have pF : (tF f).pure = true := rfl
  have pO : (trO m rows).pure = true := rfl
  rw [callS (fn := f_law_nested_word) rfl rfl rfl]
  generalize trW (sW w) = W at *
  generalize tF f = F at *
  generalize rgT 0 (L : Int) = RG at *
  generalize trO m rows = TO at *
  generalize callF gc 64 fs d = cf at *
  simp [f_law_nested_word, b_law_nested_word, manyGo, e1, hit, pW, pF, pO]
theorem cut_to {l : List Tr} {a : Nat} (h : a ≤ l.length) : cutT l none (some (a : Int)) = l.take a := by
  unfold cutT
  have e : HT.sIx l.length l.length (some (a : Int)) = a := by
    rw [HT.sIx_nat]
    omega
  rw [e]
  show (l.drop 0).take (a - 0) = _
  simp
theorem cut_from {l : List Tr} {a : Nat} (h : a + 1 ≤ l.length) : cutT l (some ((a : Int) + 1)) none = l.drop (a + 1) := by
  unfold cutT
  have e : HT.sIx l.length 0 (some ((a : Int) + 1)) = a + 1 := by
    rw [show (a : Int) + 1 = ((a + 1 : Nat) : Int) by omega, HT.sIx_nat]
    omega
  rw [e]
  show (l.drop (a + 1)).take (l.length - (a + 1)) = _
  rw [List.take_of_length_le (by rw [List.length_drop]; omega)]
theorem three {d n k : Nat} {mem : List Ob} (hd : 2 ≤ d) (P : Pot mem n k) (hk : k < 1000000) : ∃ (c : Int) (mem' : List Ob), callF gc 64 fs d n_law_of [.ob n, .lst [.int 1, .int (-1), .int 2]] mem = some (.int c, mem') ∧ c.natAbs ≤ 2 ∧ Pot mem' n (k + 1) := by
  obtain ⟨t, m3, ht, e3, P3⟩ := of_spec (d := d) (l := [.int 1, .int (-1), .int 2]) P (by omega) (by simp) (by simp) (by simp) hd
  simp only [List.mem_cons, List.not_mem_nil, or_false] at ht
  rcases ht with rfl | rfl | rfl
  · exact ⟨_, m3, e3, by omega, P3⟩
  · exact ⟨_, m3, e3, by omega, P3⟩
  · exact ⟨_, m3, e3, by omega, P3⟩
theorem bent_syllable {d m n k : Nat} {mem : List Ob} {rows : List Row} {word : List Sy} (hd : 3 ≤ d) (hM : MOk m rows) (hw : ∀ s ∈ word, s.ok rows.length) (h0 : 0 < word.length) (hl : word.length ≤ 1000) (P : Pot mem n k) (hk : k < 900000) :
    ∃ (bent : List Sy) (mem' : List Ob), callF gc 64 fs d n_law_bent_syllable [.ob n, trO m rows, trW (sW word)] mem = some (trW (sW bent), mem') ∧ (∀ s ∈ bent, s.ok rows.length) ∧ bent.length ≤ word.length ∧ tot (sW bent) ≤ tot (sW word) + 2 ∧ Pot mem' n (k + 5) := by
  obtain ⟨d, rfl⟩ : ∃ d', d = d' + 1 := ⟨d - 1, by omega⟩
  obtain ⟨j, L, e1, j0, j1, P1⟩ := take_spec (d := d) (e := 0) (u := (word.length : Int)) P (by omega) (by omega) (by omega) (by omega)
  obtain ⟨a, rfl⟩ : ∃ i : Nat, j = i := ⟨j.toNat, by omega⟩
  generalize mem.set n (.lst L) = m1 at *
  have ha : a < word.length := by omega
  have split : word = word.take a ++ word[a] :: word.drop (a + 1) := by
    rw [← List.drop_eq_getElem_cons ha, List.take_append_drop]
  have sok := hw _ (List.getElem_mem ha)
  have e2 : idxT (trW (sW word)) (.int (a : Int)) = some (trS word[a].syl) := by
    rw [sW_tr]
    show atI _ _ = _
    rw [Ev.atI_nat, List.getElem?_map, List.getElem?_eq_getElem ha]
    rfl
  have e3 : slT (trW (sW word)) none (some (a : Int)) = some (trW (sW (word.take a))) := by
    rw [sW_tr, sW_tr]
    show some (Tr.tup (cutT _ _ _)) = _
    rw [cut_to (by rw [List.length_map]; omega), List.map_take]
  have e4 : slT (trW (sW word)) (some ((a : Int) + 1)) none = some (trW (sW (word.drop (a + 1)))) := by
    rw [sW_tr, sW_tr]
    show some (Tr.tup (cutT _ _ _)) = _
    rw [cut_from (by rw [List.length_map]; omega), List.map_drop]
  have e5 : biT .len [trW (sW word)] = some (.int (word.length : Int)) := by
    rw [sW_tr, b_lenT, List.length_map]
  have hu : ∀ s ∈ word.take a, s.ok rows.length := fun s hs => hw s (List.mem_of_mem_take hs)
  have hv : ∀ s ∈ word.drop (a + 1), s.ok rows.length := fun s hs => hw s (List.mem_of_mem_drop hs)
  have lu : (word.take a).length ≤ 1000 := by rw [List.length_take]; omega
  have lv : (word.drop (a + 1)).length ≤ 1000 := by rw [List.length_drop]; omega
  have len : word.length = (word.take a).length + ((word.drop (a + 1)).length + 1) := by
    rw [List.length_take, List.length_drop]; omega
  have tt : tot (sW word) = tot (sW (word.take a)) + (word[a].syl.2.natAbs + tot (sW (word.drop (a + 1)))) := by
    conv => lhs; rw [split]
    rw [sW_app, tot_app]
    rfl
  have pW : ∀ w : List Syl, (trW w).pure = true := fun w => rfl
  have dW : ∀ (w : List Syl) (s : Sta), s.deref (trW w) = trW w := fun w s => rfl
  have p0 := pW (sW word)
  have p1 := pW (sW (word.take a))
  have p2 := pW (sW (word.drop (a + 1)))
  have d0 := dW (sW word)
  have d1 := dW (sW (word.take a))
  have d2 := dW (sW (word.drop (a + 1)))
  have ow : ∀ (y : Tr) (s2 : Sta), kIdx3 y s2 (trW (sW word)) = Rs.of (idxT (trW (sW word)) (s2.deref y)) s2 := fun y s2 => rfl
  have ot : ∀ (l : List Tr) (y : Tr) (s2 : Sta), kIdx3 y s2 (.tup l) = Rs.of (idxT (.tup l) (s2.deref y)) s2 := fun l y s2 => rfl
  have pO : (trO m rows).pure = true := rfl
  have hl80 := hM.len
  generalize word.take a = u at *
  generalize word.drop (a + 1) = v at *
  -- the ends are put round what stands there
  have adds : ∀ M : List Sy, M.length ≤ 1 → opB .add (trW (sW u)) (trW (sW M)) = some (trW (sW (u ++ M))) ∧ opB .add (trW (sW (u ++ M))) (trW (sW v)) = some (trW (sW (u ++ M ++ v))) := fun M hM => by
    constructor
    · rw [sW_app]; exact trW_add (by rw [sW_len, sW_len]; omega)
    · rw [sW_app (u ++ M)]; exact trW_add (by rw [sW_len, sW_len, List.length_append]; omega)
  have good : ∀ (M : List Sy) (mem' : List Ob), M.length ≤ 1 → (∀ s ∈ M, s.ok rows.length) → tot (sW M) ≤ word[a].syl.2.natAbs + 2 → Pot mem' n (k + 5) → callF gc 64 fs (d + 1) n_law_bent_syllable [.ob n, trO m rows, trW (sW word)] mem = some (trW (sW (u ++ M ++ v)), mem') → ∃ (bent : List Sy) (mem' : List Ob), callF gc 64 fs (d + 1) n_law_bent_syllable [.ob n, trO m rows, trW (sW word)] mem = some (trW (sW bent), mem') ∧ (∀ s ∈ bent, s.ok rows.length) ∧ bent.length ≤ word.length ∧ tot (sW bent) ≤ tot (sW word) + 2 ∧ Pot mem' n (k + 5) := fun M mem' h1 h2 h3 P' e =>
    ⟨_, mem', e, ok_app (ok_app hu h2) hv, by rw [List.length_append, List.length_append]; omega, by rw [sW_app, sW_app, tot_app, tot_app]; omega, P'⟩
  clear split
  cases hs : word[a] with
  | g l p =>
    rw [hs] at e2 sok good
    have hp : p ≠ 0 := sok
    obtain ⟨c, m2, e6, hc, P2⟩ := three (d := d) (by omega) P1 (by omega)
    have g := in_gr l.s
    rw [le_gr] at g
    by_cases hz : p + c = 0
    · refine good [] m2 (by simp) (by intro s hs; cases hs) (by simp [sW, tot]) (P2.mono (by omega)) ?_
      obtain ⟨a1, a2⟩ := adds [] (by simp)
      have q : trW (sW ([] : List Sy)) = .tup [] := rfl
      have q2 : trS (Sy.g l p).syl = .tup [.str l.s, .int p] := rfl
      rw [q] at a1
      rw [q2] at e2
      have dX := dW (sW (u ++ []))
      have pX := pW (sW (u ++ []))
      have pY := pW (sW (u ++ [] ++ v))
      rw [callS (fn := f_law_bent_syllable) rfl rfl rfl]
      clear good adds len tt
      generalize trW (sW (u ++ [] ++ v)) = W5 at *
      generalize trW (sW (u ++ [])) = W4 at *
      generalize trW (sW word) = W3 at *
      generalize trW (sW u) = W2 at *
      generalize trW (sW v) = W1 at *
      generalize trO m rows = TO at *
      generalize l.s = Z at *
      generalize callF gc 64 fs d = cf at *
      simp [f_law_bent_syllable, b_law_bent_syllable, asg, asgs, e1, e2, e3, e4, e5, e6, g, hz, a1, a2, p0, p1, p2, d0, d1, d2, dX, pX, pY, ow, ot, pO, isNul, asInt, -kIdx3, -opC2_inT]
    · refine good [.g l (p + c)] m2 (by simp) (by intro s hs; rw [List.mem_singleton.mp hs]; exact hz) ?_ (P2.mono (by omega)) ?_
      · show (p + c).natAbs + 0 ≤ p.natAbs + 2
        omega
      obtain ⟨a1, a2⟩ := adds [.g l (p + c)] (by simp)
      have q : trW (sW [Sy.g l (p + c)]) = .tup [.tup [.str l.s, .int (p + c)]] := rfl
      have q2 : trS (Sy.g l p).syl = .tup [.str l.s, .int p] := rfl
      rw [q] at a1
      rw [q2] at e2
      have dX := dW (sW (u ++ [Sy.g l (p + c)]))
      have pX := pW (sW (u ++ [Sy.g l (p + c)]))
      have pY := pW (sW (u ++ [Sy.g l (p + c)] ++ v))
      rw [callS (fn := f_law_bent_syllable) rfl rfl rfl]
      clear good adds len tt
      generalize trW (sW (u ++ [Sy.g l (p + c)] ++ v)) = W5 at *
      generalize trW (sW (u ++ [Sy.g l (p + c)])) = W4 at *
      generalize trW (sW word) = W3 at *
      generalize trW (sW u) = W2 at *
      generalize trW (sW v) = W1 at *
      generalize trO m rows = TO at *
      generalize l.s = Z at *
      generalize callF gc 64 fs d = cf at *
      simp [f_law_bent_syllable, b_law_bent_syllable, asg, asgs, e1, e2, e3, e4, e5, e6, g, hz, a1, a2, p0, p1, p2, d0, d1, d2, dX, pX, pY, ow, ot, pO, isNul, asInt, -kIdx3, -opC2_inT]
  | h i w =>
    rw [hs] at e2 sok good
    obtain ⟨hi, hw⟩ := sok
    obtain ⟨i2, m2, e6, hi2, P2⟩ := row_at (d := d) (by omega) hM P1 (by omega)
    have e7 := law_hand (d := d) (i := i2) (mem := m2) (by omega) (by omega)
    obtain ⟨t, m3, ht, e8, P3⟩ := of_spec (d := d) (l := [.tup [.str (hL i), .int (-w)], .tup [.str (hL i2), .int w]]) P2 (by omega) (by simp) (by simp) (by simp) (by omega)
    have key : ∃ s : Sy, t = trS s.syl ∧ s.ok rows.length ∧ s.syl.2.natAbs ≤ w.natAbs := by
      simp only [List.mem_cons, List.not_mem_nil, or_false] at ht
      rcases ht with rfl | rfl
      · exact ⟨.h i (-w), rfl, ⟨hi, neg_way hw⟩, by show (-w).natAbs ≤ _; omega⟩
      · exact ⟨.h i2 w, rfl, ⟨hi2, hw⟩, Nat.le_refl _⟩
    obtain ⟨s, rfl, sok, sab⟩ := key
    refine good [s] m3 (by simp) (by intro x hx; rw [List.mem_singleton.mp hx]; exact sok) ?_ (P3.mono (by omega)) ?_
    · show s.syl.2.natAbs + 0 ≤ w.natAbs + 2
      omega
    obtain ⟨a1, a2⟩ := adds [s] (by simp)
    have q : trW (sW [s]) = .tup [trS s.syl] := rfl
    have q2 : trS (Sy.h i w).syl = .tup [.str (hL i), .int w] := rfl
    rw [q] at a1
    rw [q2] at e2
    have g := in_gr (hL i)
    rw [not_gr i (by omega)] at g
    have dX := dW (sW (u ++ [s]))
    have pX := pW (sW (u ++ [s]))
    have pY := pW (sW (u ++ [s] ++ v))
    have pS : (trS s.syl).pure = true := rfl
    have c2 := trO_rows m rows
    have lR : (rows.map trRow).length = rows.length := List.length_map ..
    have lO : ∀ s : Sta, s.deref (trO m rows) = trO m rows := fun s => rfl
    have ob : ∀ (y : Tr) (s2 : Sta), kIdx3 y s2 (trO m rows) = Rs.of (idxT (trO m rows) (s2.deref y)) s2 := fun y s2 => rfl
    rw [callS (fn := f_law_bent_syllable) rfl rfl rfl]
    clear good adds len tt
    generalize trS s.syl = S at *
    generalize trW (sW (u ++ [s] ++ v)) = W5 at *
    generalize trW (sW (u ++ [s])) = W4 at *
    generalize trW (sW word) = W3 at *
    generalize trW (sW u) = W2 at *
    generalize trW (sW v) = W1 at *
    generalize rows.map trRow = RR at *
    generalize trO m rows = TO at *
    generalize hL i = Z at *
    generalize hL i2 = Z2 at *
    generalize callF gc 64 fs d = cf at *
    simp [f_law_bent_syllable, b_law_bent_syllable, asg, asgs, e1, e2, e3, e4, e5, e6, e7, e8, g, a1, a2, p0, p1, p2, d0, d1, d2, dX, pX, pY, pS, ow, ot, pO, c2, lR, lO, ob, isNul, asInt, -kIdx3, -opC2_inT]
end G
/-! Laps of law k32. -/
namespace G
open Ev PySem L2 G17
structure BW (n : Nat) (w : List Sy) : Prop where
  ok : ∀ s ∈ w, s.ok n
  len : w.length ≤ 170
  tt : tot (sW w) < 2 ^ 60
theorem BW.wok {m : Nat} {rows : List Row} {w : List Sy} (h : BW rows.length w) : WOk m rows 60 w := ⟨h.ok, tot_pw h.tt, by omega, by have := h.len; omega, by have := h.len; omega⟩
theorem BW.both {m : Nat} {rows : List Row} {u w : List Sy} (h : BW rows.length u) (h2 : BW rows.length w) : WOk m rows 60 (u ++ undS w) := ⟨ok_app h.ok (undS_ok h2.ok), (tot_pw h.tt).app (undS_pw (tot_pw h2.tt)), by omega, by rw [List.length_append, undS_len]; have := h.len; have := h2.len; omega, by rw [List.length_append, undS_len]; have := h.len; have := h2.len; omega⟩
theorem NW.bw {m L : Nat} {rows : List Row} {w : List Sy} {f : Fo} (h : NW m rows L w f) (hL : L ≤ 5) : BW rows.length w := ⟨h.ok, by have := h.wl; omega, by
  have h1 := h.wt
  have h2 : L * 2 ^ 57 ≤ 5 * 2 ^ 57 := Nat.mul_le_mul_right _ hL
  have h3 : 5 * 2 ^ 57 < 2 ^ 60 := by decide +kernel
  omega⟩
theorem text_bw {n : Nat} {f : Fo} (h : FB 49 f) (hl : f.1.length ≤ 3) (hp : ptot f.1 ≤ 9) : BW n (gS (textW f)) := by
  have h1 := text_len f
  have h2 := text_tot h hl
  refine ⟨gS_ok (textW_nz f), by simp only [gS, List.length_map]; omega, ?_⟩
  rw [sW_gS]
  have h3 : 3 * (4 * 2 ^ 49) + 9 + 2 * 2 ^ 49 < 2 ^ 60 := by decide +kernel
  omega
theorem repr_tower {m : Nat} {rows : List Row} {w : List Sy} (hM : MOk m rows) (h : BW rows.length w) : ∃ z, reprT (.tup (twL (tw m rows w))) = some (.str z) := by
  obtain ⟨a, b⟩ := runT_ok (n := 0) hM w 60 0 ([], E0) (by omega) (E0_ok 60 _) h.ok (tot_pw h.tt)
  have hl := h.len
  have t := twt_run m rows w ([], E0)
  have z : twt (([] : St), E0) = 0 := rfl
  rw [z] at t
  have b' : (tw m rows w).1.length ≤ 0 + w.length := b
  have t' : twt (tw m rows w) ≤ 0 + tot (sW w) := t
  refine repr_tw a hM.len ?_ (by omega) (by show (tw m rows w).1.length ≤ 200; omega) (by omega) (by omega)
  show twt (tw m rows w) < _
  have := h.tt
  have p : 2 ^ 60 ≤ 2 ^ (60 + 10 * w.length) := Nat.pow_le_pow_right (by omega) (by omega)
  omega
theorem repr_bl (b : Bool) : ∃ z, reprT (.bl b) = some (.str z) := repr_of (n := 0) (k := 5) rfl (by omega) (by omega)
theorem bend_step {d m n k L : Nat} {mem : List Ob} {rows : List Row} {word : List Sy} {f : Fo} {x3 s7 s8 s9 : Slot} (hd : 8 ≤ d) (hM : MOk m rows) (h : NW m rows L word f) (hL : L ≤ 5) (h0 : 0 < L) (P : Pot mem n k) (hk : k < 500000) :
    ∃ (mem' : List Ob) (t8 t9 : Slot), exSs gc (callF gc 64 fs d) 64 l_law_right_7_0 ⟨[.val (.ob n), .val (trO m rows), .val (trM m rows), x3, .val (trW (sW word)), .val (tF f), .val (trW (sW (gS (textW f)))), s7, s8, s9], mem⟩ = .ok .next ⟨[.val (.ob n), .val (trO m rows), .val (trM m rows), x3, .val (trW (sW word)), .val (tF f), .val (trW (sW (gS (textW f)))), s7, t8, t9], mem'⟩ ∧ Pot mem' n (k + 5) := by
  have wm := h.wm
  have wb := h.bw hL
  have wl := wb.len
  obtain ⟨bent, m1, e1, bo, bl, bt, P1⟩ := bent_syllable (d := d) (by omega) hM h.ok (by omega) (by omega) P (by omega)
  have tb : BW rows.length (gS (textW f)) := text_bw h.fb h.len h.pt
  have h1 := h.wt
  have h2 : L * 2 ^ 57 ≤ 5 * 2 ^ 57 := Nat.mul_le_mul_right _ hL
  have h3 : 5 * 2 ^ 57 + 2 < 2 ^ 60 := by decide +kernel
  have bb : BW rows.length bent := ⟨bo, by omega, by omega⟩
  have e2 := tower_spec (d := d) (mem := m1) (by omega) hM bb.wok
  have e3 := law_tower (d := d) (mem := m1) (B := 60) (by omega) hM bb.ok (by omega) (by have := bb.len; omega) (tot_pw bb.tt) (by have := bb.len; omega)
  obtain ⟨z, r⟩ := repr_tower hM bb
  have e4 := law_undone (d := d) (mem := m1) (w := sW (gS (textW f))) (by omega) (by rw [sW_len]; have := tb.len; omega)
  rw [und_sW] at e4
  have bl' := bb.len
  have tl' := tb.len
  have a1 : opB .add (trW (sW bent)) (trW (sW (undS (gS (textW f))))) = some (trW (sW (bent ++ undS (gS (textW f))))) := by
    rw [sW_app]
    exact trW_add (by rw [sW_len, sW_len, undS_len]; omega)
  have e5 := law_empty (d := d) (mem := m1) (by omega) hM (bb.both (m := m) tb)
  have e6 := alike_spec (d := d) (mem := m1) (B := 60) (by omega) hM bb.wok tb.wok (by omega) (by omega)
  obtain ⟨zb, rb⟩ := repr_bl (emp (tw m rows (bent ++ undS (gS (textW f)))))
  refine ⟨m1, .val (trW (sW bent)), .val (.bl (emp (tw m rows (bent ++ undS (gS (textW f)))))), ?_, P1⟩
  have b1 : ∀ t : Tr, biT .repr [t] = reprT t := fun t => rfl
  have pM : (trM m rows).pure = true := rfl
  have pO : (trO m rows).pure = true := rfl
  have pW : ∀ w : List Syl, (trW w).pure = true := fun w => rfl
  have dW : ∀ (w : List Syl) (s : Sta), s.deref (trW w) = trW w := fun w s => rfl
  have p0 := pW (sW word)
  have p1 := pW (sW bent)
  have p2 := pW (sW (gS (textW f)))
  have p3 := pW (sW (undS (gS (textW f))))
  have p4 := pW (sW (bent ++ undS (gS (textW f))))
  have d0 := dW (sW word)
  have d1 := dW (sW bent)
  have d2 := dW (sW (gS (textW f)))
  have d3 := dW (sW (undS (gS (textW f))))
  have pF : (tF f).pure = true := rfl
  have dT : ∀ s : Sta, s.deref (.tup (twL (tw m rows bent))) = .tup (twL (tw m rows bent)) := fun s => rfl
  have pT : (Tr.tup (twL (tw m rows bent))).pure = true := rfl
  clear h1 h2 bt wb tb bb dW pW bo h
  generalize (Tr.tup (twL (tw m rows bent))) = TT at *
  generalize emp (tw m rows (bent ++ undS (gS (textW f)))) = E at *
  generalize trW (sW (bent ++ undS (gS (textW f)))) = W4 at *
  generalize trW (sW (undS (gS (textW f)))) = W3 at *
  generalize trW (sW (gS (textW f))) = W2 at *
  generalize trW (sW bent) = W1 at *
  generalize trW (sW word) = W0 at *
  generalize tF f = F at *
  generalize trM m rows = TM at *
  generalize trO m rows = TO at *
  generalize callF gc 64 fs d = cf at *
  simp [l_law_right_7_0, e1, e2, e3, e4, e5, e6, a1, b1, r, rb, pM, pO, p0, p1, p2, p3, p4, d0, d1, d2, d3, pF, dT, pT]
theorem bends {d m n L : Nat} {rows : List Row} {word : List Sy} {f : Fo} {x3 : Slot} (hd : 8 ≤ d) (hM : MOk m rows) (h : NW m rows L word f) (hL : L ≤ 5) (h0 : 0 < L) : ∀ (xs : List Tr) (mem : List Ob) (k : Nat) (s7 s8 s9 : Slot), Pot mem n k → k + 5 * xs.length < 500000 → (∀ x ∈ xs, x.pure = true) → ∃ (mem' : List Ob) (t7 t8 t9 : Slot),
    forGo (.nm 7) (exSs gc (callF gc 64 fs d) 64 l_law_right_7_0) xs ⟨[.val (.ob n), .val (trO m rows), .val (trM m rows), x3, .val (trW (sW word)), .val (tF f), .val (trW (sW (gS (textW f)))), s7, s8, s9], mem⟩ = .ok .next ⟨[.val (.ob n), .val (trO m rows), .val (trM m rows), x3, .val (trW (sW word)), .val (tF f), .val (trW (sW (gS (textW f)))), t7, t8, t9], mem'⟩ ∧ Pot mem' n (k + 5 * xs.length)
  | [], mem, k, s7, s8, s9, P, _, _ => ⟨mem, s7, s8, s9, by simp [forGo], P⟩
  | x :: xs, mem, k, s7, s8, s9, P, hk, hx => by
    rw [List.length_cons] at hk
    obtain ⟨m1, t8, t9, e1, P1⟩ := bend_step (x3 := x3) (s7 := .val x) (s8 := s8) (s9 := s9) hd hM h hL h0 P (by omega)
    obtain ⟨m2, u7, u8, u9, e2, P2⟩ := bends (x3 := x3) hd hM h hL h0 xs m1 (k + 5) (.val x) t8 t9 P1 (by omega) (fun y hy => hx y (List.mem_cons_of_mem _ hy))
    refine ⟨m2, u7, u8, u9, ?_, P2.mono (by rw [List.length_cons]; omega)⟩
    have ha : asg (.nm 7) x [.val (.ob n), .val (trO m rows), .val (trM m rows), x3, .val (trW (sW word)), .val (tF f), .val (trW (sW (gS (textW f)))), s7, s8, s9] = some [.val (.ob n), .val (trO m rows), .val (trM m rows), x3, .val (trW (sW word)), .val (tF f), .val (trW (sW (gS (textW f)))), .val x, s8, s9] := by simp [asg, hx x (List.mem_cons_self ..)]
    rw [forGo_cons ha e1, e2]
theorem lap_step {d m n k : Nat} {mem : List Ob} {rows : List Row} {x3 s4 s5 s6 s7 s8 s9 : Slot} (hd : 8 ≤ d) (hM : MOk m rows) (P : Pot mem n k) (hk : k < 300000) :
    ∃ (mem' : List Ob) (t4 t5 t6 t7 t8 t9 : Slot), exSs gc (callF gc 64 fs d) 64 l_law_right_7_1 ⟨[.val (.ob n), .val (trO m rows), .val (trM m rows), x3, s4, s5, s6, s7, s8, s9], mem⟩ = .ok .next ⟨[.val (.ob n), .val (trO m rows), .val (trM m rows), x3, t4, t5, t6, t7, t8, t9], mem'⟩ ∧ Pot mem' n (k + 600) := by
  obtain ⟨j, L0, e1, j0, j1, P1⟩ := take_spec (d := d) (e := 0) (u := 5) P (by omega) (by omega) (by omega) (by omega)
  generalize mem.set n (.lst L0) = m1 at *
  obtain ⟨j, rfl⟩ : ∃ i : Nat, j = i := ⟨j.toNat, by omega⟩
  obtain ⟨word, f, m2, e2, h, P2⟩ := nested_word (d := d) (L := 1 + j) (by omega) hM (by omega) P1 (by omega)
  have nj : ((1 + j : Nat) : Int) = 1 + (j : Int) := by omega
  rw [nj] at e2
  have wb := h.bw (by omega)
  have tb : BW rows.length (gS (textW f)) := text_bw h.fb h.len h.pt
  have wl := wb.len
  have tl := tb.len
  have e3 := tower_spec (d := d) (mem := m2) (by omega) hM wb.wok
  obtain ⟨z, r⟩ := repr_tower hM wb
  rw [acts_tw h.red h.acts] at e3 r
  have q1 : twL (([] : St), f) = [tF f] := rfl
  rw [q1] at e3 r
  have e4 := law_form_word (d := d) (mem := m2) (f := f) (by omega) (by have := h.len; omega)
  rw [← sW_gS] at e4
  have e5 := law_undone (d := d) (mem := m2) (w := sW (gS (textW f))) (by omega) (by rw [sW_len]; omega)
  rw [und_sW] at e5
  have a1 : opB .add (trW (sW word)) (trW (sW (undS (gS (textW f))))) = some (trW (sW (word ++ undS (gS (textW f))))) := by
    rw [sW_app]
    exact trW_add (by rw [sW_len, sW_len, undS_len]; omega)
  have e6 := is_empty_spec (d := d) (mem := m2) (by omega) hM (wb.both (m := m) tb)
  have e7 := alike_spec (d := d) (mem := m2) (B := 60) (by omega) hM wb.wok tb.wok (by omega) (by omega)
  have ac := acts_app hM h.ok (undS_ok tb.ok) h.red h.acts (acts_und_text hM h.red)
  rw [mul_inv] at ac
  have em : emp (tw m rows (word ++ undS (gS (textW f)))) = true := (emp_iff _).mpr (acts_tw (F := E0) trivial ac)
  rw [em] at e6 e7
  have rl := rgT_len 0 2
  have rp := rgT_pure 0 2
  have hit : items 1 [.int 2] = some (rgT 0 2) := by
    simp only [items]
    rw [if_pos (in62_of (by omega))]
  obtain ⟨m3, t7, t8, t9, e8, P3⟩ := bends (d := d) (n := n) (x3 := x3) hd hM h (by omega) (by omega) (rgT 0 2) m2 _ s7 s8 s9 P2 (by omega) (fun x hx => List.all_eq_true.mp rp x hx)
  refine ⟨m3, .val (trW (sW word)), .val (tF f), .val (trW (sW (gS (textW f)))), t7, t8, t9, ?_, P3.mono (by omega)⟩
  have b1 : ∀ t : Tr, biT .repr [t] = reprT t := fun t => rfl
  have pM : (trM m rows).pure = true := rfl
  have pO : (trO m rows).pure = true := rfl
  have pW : ∀ w : List Syl, (trW w).pure = true := fun w => rfl
  have dW : ∀ (w : List Syl) (s : Sta), s.deref (trW w) = trW w := fun w s => rfl
  have p0 := pW (sW word)
  have p2 := pW (sW (gS (textW f)))
  have p3 := pW (sW (undS (gS (textW f))))
  have p4 := pW (sW (word ++ undS (gS (textW f))))
  have d0 := dW (sW word)
  have d2 := dW (sW (gS (textW f)))
  have d3 := dW (sW (undS (gS (textW f))))
  have pF : (tF f).pure = true := rfl
  have dF : ∀ s : Sta, s.deref (tF f) = tF f := fun s => rfl
  have nn : opC2 .notN (.bl true) (.bl true) = some false := rfl
  clear wb tb dW pW h ac em P1 P2 P3
  generalize trW (sW (word ++ undS (gS (textW f)))) = W4 at *
  generalize trW (sW (undS (gS (textW f)))) = W3 at *
  generalize trW (sW (gS (textW f))) = W2 at *
  generalize trW (sW word) = W0 at *
  generalize tF f = F at *
  generalize rgT 0 2 = RG at *
  generalize trM m rows = TM at *
  generalize trO m rows = TO at *
  generalize callF gc 64 fs d = cf at *
  simp [l_law_right_7_1, asg, asgs, e1, e2, e3, e4, e5, e6, e7, e8, a1, b1, r, hit, pM, pO, p0, p2, p3, p4, d0, d2, d3, pF, dF, nn]
theorem laps {d m n : Nat} {rows : List Row} (hd : 8 ≤ d) (hM : MOk m rows) : ∀ (xs : List Tr) (mem : List Ob) (k : Nat) (s3 s4 s5 s6 s7 s8 s9 : Slot), Pot mem n k → k + 600 * xs.length < 300000 → (∀ x ∈ xs, x.pure = true) → ∃ (mem' : List Ob) (t3 t4 t5 t6 t7 t8 t9 : Slot),
    forGo (.nm 3) (exSs gc (callF gc 64 fs d) 64 l_law_right_7_1) xs ⟨[.val (.ob n), .val (trO m rows), .val (trM m rows), s3, s4, s5, s6, s7, s8, s9], mem⟩ = .ok .next ⟨[.val (.ob n), .val (trO m rows), .val (trM m rows), t3, t4, t5, t6, t7, t8, t9], mem'⟩
  | [], mem, k, s3, s4, s5, s6, s7, s8, s9, P, _, _ => ⟨mem, s3, s4, s5, s6, s7, s8, s9, by simp [forGo]⟩
  | x :: xs, mem, k, s3, s4, s5, s6, s7, s8, s9, P, hk, hx => by
    rw [List.length_cons] at hk
    obtain ⟨m1, t4, t5, t6, t7, t8, t9, e1, P1⟩ := lap_step (x3 := .val x) (s4 := s4) (s5 := s5) (s6 := s6) (s7 := s7) (s8 := s8) (s9 := s9) hd hM P (by omega)
    obtain ⟨m2, u3, u4, u5, u6, u7, u8, u9, e2⟩ := laps hd hM xs m1 (k + 600) (.val x) t4 t5 t6 t7 t8 t9 P1 (by omega) (fun y hy => hx y (List.mem_cons_of_mem _ hy))
    refine ⟨m2, u3, u4, u5, u6, u7, u8, u9, ?_⟩
    have ha : asg (.nm 3) x [.val (.ob n), .val (trO m rows), .val (trM m rows), s3, s4, s5, s6, s7, s8, s9] = some [.val (.ob n), .val (trO m rows), .val (trM m rows), .val x, s4, s5, s6, s7, s8, s9] := by simp [asg, hx x (List.mem_cons_self ..)]
    rw [forGo_cons ha e1, e2]
theorem Pot.app {m : List Ob} {n k : Nat} {o : Ob} (h : Pot m n k) : Pot (m ++ [o]) n k := by
  obtain ⟨a, s, c, h1, h2⟩ := h.ex
  refine ⟨a, s, c, ?_, h2⟩
  rw [List.getElem?_append_left (List.getElem?_eq_some_iff.mp h1).1]
  exact h1
theorem right32 {d n k : Nat} {mem : List Ob} (hd : 9 ≤ d) (P : Pot mem n k) (hk : k < 1000) : ∃ mem', callF gc 64 fs d n_law_right_7 [.ob n] mem = some (.bl true, mem') := by
  obtain ⟨d, rfl⟩ : ∃ d', d = d' + 1 := ⟨d - 1, by omega⟩
  obtain ⟨m, rows, m1, _, hM, _, e1, P1⟩ := drawn_machine (d := d) P (by omega) (by omega)
  have pM : (trM m rows).pure = true := rfl
  have pO : (trO m rows).pure = true := rfl
  have e3 : callF gc 64 fs d n_law_package [trO m rows] m1 = some (trM m rows, m1 ++ [.gone]) := by
    obtain ⟨d, rfl⟩ : ∃ d', d = d' + 1 := ⟨d - 1, by omega⟩
    have a2 := machine_text (d := d) (mem := m1) (by omega) hM
    have a3 := machine (d := d) (mem := m1) (by omega) hM
    rw [callS (fn := f_law_package) rfl rfl rfl]
    generalize trM m rows = TM at *
    generalize trO m rows = TO at *
    generalize macText m rows = TX at *
    generalize callF gc 64 fs d = cf at *
    simp [f_law_package, b_law_package, a2, a3, pM, pO]
  have rl := rgT_len 0 2
  have rp := rgT_pure 0 2
  have hit : items 1 [.int 2] = some (rgT 0 2) := by
    simp only [items]
    rw [if_pos (in62_of (by omega))]
  obtain ⟨m2, t3, t4, t5, t6, t7, t8, t9, e4⟩ := laps (d := d) (n := n) (by omega) hM (rgT 0 2) (m1 ++ [.gone]) _ .none .none .none .none .none .none .none P1.app (by omega) (fun x hx => List.all_eq_true.mp rp x hx)
  refine ⟨m2, ?_⟩
  rw [callS (fn := f_law_right_7) rfl rfl rfl]
  generalize rgT 0 2 = RG at *
  generalize trM m rows = TM at *
  generalize trO m rows = TO at *
  generalize callF gc 64 fs d = cf at *
  simp [f_law_right_7, b_law_right_7, e1, e3, e4, hit, pM, pO]
end G
/-! Law k32 at every script. -/
namespace G
open Ev PySem L2
theorem comp_mem {f : Tr → List Ob → Option (Option Tr × List Ob)} {P : Tr → Prop} (h : ∀ x m, P x → ∃ m', f x m = some (some (.bl true), m')) : ∀ (xs acc : List Tr) (m : List Ob), (∀ x ∈ xs, P x) → acc.length + xs.length ≤ 16777216 → ∃ m', compGo f xs m acc = some (acc ++ List.replicate xs.length (.bl true), m')
  | [], acc, m, _, _ => ⟨m, by simp [compGo]⟩
  | x :: xs, acc, m, hp, hl => by
    rw [List.length_cons] at hl
    obtain ⟨m1, e1⟩ := h x m (hp x (by simp))
    obtain ⟨m2, e2⟩ := comp_mem h xs (acc ++ [.bl true]) m1 (fun y hy => hp y (by simp [hy])) (by simp; omega)
    refine ⟨m2, ?_⟩
    simp only [compGo, e1]
    rw [if_pos (by rw [Ev.sizeLine_eq]; omega), e2, List.length_cons, List.replicate_succ]
    simp
theorem rg0 (c : Nat) : rgT 0 (c : Int) = ((List.range c).map fun (i : Nat) => (i : Int)).map .int := by
  unfold rgT
  simp
theorem cells2 {d : Nat} {m : List Ob} {ns : List Int} (hd : 1 ≤ d) : ∃ c : Nat, c ≤ 2 ∧ (∀ i < c, i < ns.length ∨ (i = 0 ∧ ns = [])) ∧ callF gc 64 fs d n_law_cells [.flst (ns.map .int), .int 2] m = some (.lst (rgT 0 c), m) := by
  obtain ⟨d, rfl⟩ : ∃ d', d = d' + 1 := ⟨d - 1, by omega⟩
  have hl : (ns.map Tr.int).length = ns.length := List.length_map ..
  obtain ⟨c, hc, h3, hi⟩ : ∃ c : Nat, (c : Int) = (if (if (ns.length : Int) < 2 then (ns.length : Int) else 2) > 1 then (if (ns.length : Int) < 2 then (ns.length : Int) else 2) else 1) ∧ c ≤ 2 ∧ ∀ i < c, i < ns.length ∨ (i = 0 ∧ ns = []) := by
    have e0 : ns.length = 0 → ns = [] := List.length_eq_zero_iff.mp
    refine ⟨max 1 (min ns.length 2), ?_, by omega, fun i hi => ?_⟩
    · split <;> split at * <;> omega
    · by_cases h : ns.length = 0
      · exact .inr ⟨by omega, e0 h⟩
      · exact .inl (by omega)
  have key : biT .listRg [.int (if (if (ns.length : Int) < 2 then (ns.length : Int) else 2) > 1 then (if (ns.length : Int) < 2 then (ns.length : Int) else 2) else 1)] = some (.lst (rgT 0 c)) := by
    rw [← hc]
    simp only [biT]
    exact if_pos (by
      rw [Bool.and_eq_true]
      exact ⟨decide_eq_true (by omega), Nat.ble_eq_true_of_le (by omega)⟩)
  refine ⟨c, h3, hi, ?_⟩
  generalize rgT 0 (c : Int) = R at key ⊢
  rw [callS (fn := f_law_cells) rfl rfl rfl]
  generalize ns.map Tr.int = L at hl
  have e1 : biT .len [.flst L] = some (.int ns.length) := by rw [b_lenF, hl]
  have e2 := b_min2 2 (ns.length : Int)
  have e3 := b_max2 1 (if (ns.length : Int) < 2 then (ns.length : Int) else 2)
  generalize (if (ns.length : Int) < 2 then (ns.length : Int) else 2) = A at e2 e3 key
  generalize (if A > 1 then A else 1) = B at e3 key
  simp [f_law_cells, b_law_cells, e1, e2, e3, key, -b_lenF, -b_min2, -b_max2]
theorem law_all (ns : List Int) : ∃ m', callF gc 64 fs 40 n_law_7 [.flst (ns.map .int)] [] = some (.bl true, m') := by
  rw [show (40 : Nat) = 39 + 1 from rfl, callS (fn := f_law_7) rfl rfl rfl]
  obtain ⟨c, hc, hi, e1⟩ := cells2 (d := 39) (m := []) (ns := ns) (by omega)
  obtain ⟨m', e2⟩ := comp_mem (f := compF (.nm 1) [.val (.flst (ns.map .int)), .none] (kCond gc (callF gc 64 fs 39) .nul) (kElt gc (callF gc 64 fs 39) e_law_7_0)) (P := fun x => ∃ i : Nat, x = .int i ∧ i ≤ 2 ∧ (i < ns.length ∨ (i = 0 ∧ ns = []))) (fun x m hx => by
    obtain ⟨i, rfl, h2, h3⟩ := hx
    obtain ⟨o, s, p1, s0, s1⟩ := pot (d := 39) (e := 0) (m := m) h2 h3 (by omega)
    obtain ⟨m2, p2⟩ := right32 (d := 39) (by omega) (pot_ok (o := o) (m := m) s0 s1) (by omega)
    refine ⟨m2, ?_⟩
    generalize m ++ [.lst [.int o, .int s, .int 0]] = m1 at p1 p2
    generalize callF gc 64 fs 39 = cf at p1 p2 ⊢
    generalize ns.map Tr.int = L at p1 ⊢
    simp [compF, asg, isNul, e_law_7_0, p1, p2]) (rgT 0 c) [] [] (fun x hx => by
      rw [rg0] at hx
      obtain ⟨j, hj, rfl⟩ := List.mem_map.mp hx
      obtain ⟨i, hi2, rfl⟩ := List.mem_map.mp hj
      have := List.mem_range.mp hi2
      exact ⟨i, rfl, by omega, hi i this⟩) (by rw [rg0]; simp; omega)
  refine ⟨m', ?_⟩
  have hit : items 0 [.lst (rgT 0 c)] = some (rgT 0 c) := rfl
  have hall := allT (rgT 0 c).length
  rw [List.nil_append] at e2
  generalize rgT 0 (c : Int) = R at e1 e2 hit hall
  generalize callF gc 64 fs 39 = cf at e1 e2 ⊢
  generalize ns.map Tr.int = L at e1 e2 ⊢
  generalize List.replicate R.length (Tr.bl true) = BB at e2 hall
  simp [f_law_7, b_law_7, e1, hit, wipeE, Slot.lock, e2, hall, -b_all]
theorem law_holds (ns : List Int) (_ : ns.length ≤ 63) : ∃ m', callF gc wf fs 40 n_law_7 [.flst (ns.map .int)] [] = some (.bl true, m') := law_all ns
end G
open PySem PySem.W PyProof.Rows
set_option maxRecDepth 100000 in
set_option maxHeartbeats 0 in
theorem PySem.Challenge.cw_emptywords_k32_whole_nested_pinches_holds : PySem.Challenge.rw_emptywords_k32_whole_nested_pinches.Holds := by
  w_on; o_law; k_head; (case hw => w_witness2)
  k_fill
  refine Ev.walk_G (l := PySem.Challenge.rw_emptywords_k32_whole_nested_pinches) (n := 63) (d0 := 40) (wf := G.wf) (li := G.n_law_7) (x := "script") (D := G.D) (gc := G.gc) (fs := G.fs) (is := G.is) (I := G.i_law_7) rfl (by decide) rfl ⟨rfl, by decide, by decide⟩ (fun w h Y => PySem.W.kIn_of Y) G.tab G.all rfl rfl rfl rfl ?F0 G.law_holds
  case F0 =>
    intro w mg h KX GG
    refine Ev.dyn_mk (L := [("Machine", ?_)]) KX GG rfl ?DF ?DC ?DB ?DK ?D2
    case DF =>
      refine' .cons (Ev.fk (x := "_law_cells") (st := G.s_law_cells) rfl rfl rfl rfl ?fa0 ?fl0 ?fc0 ?fk0) ?_
      (case fa0 => k_is); (case fl0 => k_is); (case fc0 => k_is); (case fk0 => k_is)
      refine' .cons (Ev.fk (x := "_law_take") (st := G.s_law_take) rfl rfl rfl rfl ?fa1 ?fl1 ?fc1 ?fk1) ?_
      (case fa1 => k_is); (case fl1 => k_is); (case fc1 => k_is); (case fk1 => k_is)
      refine' .cons (Ev.fk (x := "_law_of") (st := G.s_law_of) rfl rfl rfl rfl ?fa2 ?fl2 ?fc2 ?fk2) ?_
      (case fa2 => k_is); (case fl2 => k_is); (case fc2 => k_is); (case fk2 => k_is)
      refine' .cons (Ev.fk (x := "_law_some") (st := G.s_law_some) rfl rfl rfl rfl ?fa3 ?fl3 ?fc3 ?fk3) ?_
      (case fa3 => k_is); (case fl3 => k_is); (case fc3 => k_is); (case fk3 => k_is)
      refine' .cons (Ev.fk (x := "_law_drawn_machine") (st := G.s_law_drawn_machine) rfl rfl rfl rfl ?fa4 ?fl4 ?fc4 ?fk4) ?_
      (case fa4 => k_is); (case fl4 => k_is); (case fc4 => k_is); (case fk4 => k_is)
      refine' .cons (Ev.fk (x := "whole_in") (st := G.s_whole_in) rfl rfl rfl rfl ?fa5 ?fl5 ?fc5 ?fk5) ?_
      (case fa5 => k_is); (case fl5 => k_is); (case fc5 => k_is); (case fk5 => k_is)
      refine' .cons (Ev.fk (x := "integer_in") (st := G.s_integer_in) rfl rfl rfl rfl ?fa6 ?fl6 ?fc6 ?fk6) ?_
      (case fa6 => k_is); (case fl6 => k_is); (case fc6 => k_is); (case fk6 => k_is)
      refine' .cons (Ev.fk (x := "figures_in") (st := G.s_figures_in) rfl rfl rfl rfl ?fa7 ?fl7 ?fc7 ?fk7) ?_
      (case fa7 => k_is); (case fl7 => k_is); (case fc7 => k_is); (case fk7 => k_is)
      refine' .cons (Ev.fk (x := "row_in") (st := G.s_row_in) rfl rfl rfl rfl ?fa8 ?fl8 ?fc8 ?fk8) ?_
      (case fa8 => k_is); (case fl8 => k_is); (case fc8 => k_is); (case fk8 => k_is)
      refine' .cons (Ev.fk (x := "told_by") (st := G.s_told_by) rfl rfl rfl rfl ?fa9 ?fl9 ?fc9 ?fk9) ?_
      (case fa9 => k_is); (case fl9 => k_is); (case fc9 => k_is); (case fk9 => k_is)
      refine' .cons (Ev.fkC (x := "__init__") (q := "Machine.__init__") (cn := "Machine") (st := G.s_Machine) rfl rfl rfl rfl ?fa10 ?fi10 ?fn10 ?fl10 ?fc10 ?fk10 ?fm10 ?fo10) ?_
      (case fa10 => k_is); (case fi10 => k_is); (case fn10 => k_is); (case fl10 => k_is); (case fc10 => k_is); (case fk10 => k_is); (case fm10 => k_is); (case fo10 => k_is)
      refine' .cons (Ev.fk (x := "_law_machine_text") (st := G.s_law_machine_text) rfl rfl rfl rfl ?fa11 ?fl11 ?fc11 ?fk11) ?_
      (case fa11 => k_is); (case fl11 => k_is); (case fc11 => k_is); (case fk11 => k_is)
      refine' .cons (Ev.fk (x := "_law_package") (st := G.s_law_package) rfl rfl rfl rfl ?fa12 ?fl12 ?fc12 ?fk12) ?_
      (case fa12 => k_is); (case fl12 => k_is); (case fc12 => k_is); (case fk12 => k_is)
      refine' .cons (Ev.fk (x := "_law_any_number") (st := G.s_law_any_number) rfl rfl rfl rfl ?fa13 ?fl13 ?fc13 ?fk13) ?_
      (case fa13 => k_is); (case fl13 => k_is); (case fc13 => k_is); (case fk13 => k_is)
      refine' .cons (Ev.fk (x := "_law_same_moved") (st := G.s_law_same_moved) rfl rfl rfl rfl ?fa14 ?fl14 ?fc14 ?fk14) ?_
      (case fa14 => k_is); (case fl14 => k_is); (case fc14 => k_is); (case fk14 => k_is)
      refine' .cons (Ev.fk (x := "_law_going_form") (st := G.s_law_going_form) rfl rfl rfl rfl ?fa15 ?fl15 ?fc15 ?fk15) ?_
      (case fa15 => k_is); (case fl15 => k_is); (case fc15 => k_is); (case fk15 => k_is)
      refine' .cons (Ev.fk (x := "_law_hand") (st := G.s_law_hand) rfl rfl rfl rfl ?fa16 ?fl16 ?fc16 ?fk16) ?_
      (case fa16 => k_is); (case fl16 => k_is); (case fc16 => k_is); (case fk16 => k_is)
      refine' .cons (Ev.fk (x := "_law_moved_t") (st := G.s_law_moved_t) rfl rfl rfl rfl ?fa17 ?fl17 ?fc17 ?fk17) ?_
      (case fa17 => k_is); (case fl17 => k_is); (case fc17 => k_is); (case fk17 => k_is)
      refine' .cons (Ev.fk (x := "_law_freed") (st := G.s_law_freed) rfl rfl rfl rfl ?fa18 ?fl18 ?fc18 ?fk18) ?_
      (case fa18 => k_is); (case fl18 => k_is); (case fc18 => k_is); (case fk18 => k_is)
      refine' .cons (Ev.fk (x := "_law_form_word") (st := G.s_law_form_word) rfl rfl rfl rfl ?fa19 ?fl19 ?fc19 ?fk19) ?_
      (case fa19 => k_is); (case fl19 => k_is); (case fc19 => k_is); (case fk19 => k_is)
      refine' .cons (Ev.fk (x := "_law_form_times") (st := G.s_law_form_times) rfl rfl rfl rfl ?fa20 ?fl20 ?fc20 ?fk20) ?_
      (case fa20 => k_is); (case fl20 => k_is); (case fc20 => k_is); (case fk20 => k_is)
      refine' .cons (Ev.fk (x := "_law_form_undone") (st := G.s_law_form_undone) rfl rfl rfl rfl ?fa21 ?fl21 ?fc21 ?fk21) ?_
      (case fa21 => k_is); (case fl21 => k_is); (case fc21 => k_is); (case fk21 => k_is)
      refine' .cons (Ev.fk (x := "_law_turned") (st := G.s_law_turned) rfl rfl rfl rfl ?fa22 ?fl22 ?fc22 ?fk22) ?_
      (case fa22 => k_is); (case fl22 => k_is); (case fc22 => k_is); (case fk22 => k_is)
      refine' .cons (Ev.fk (x := "_law_passed") (st := G.s_law_passed) rfl rfl rfl rfl ?fa23 ?fl23 ?fc23 ?fk23) ?_
      (case fa23 => k_is); (case fl23 => k_is); (case fc23 => k_is); (case fk23 => k_is)
      refine' .cons (Ev.fk (x := "_law_nested_word") (st := G.s_law_nested_word) rfl rfl rfl rfl ?fa24 ?fl24 ?fc24 ?fk24) ?_
      (case fa24 => k_is); (case fl24 => k_is); (case fc24 => k_is); (case fk24 => k_is)
      refine' .cons (Ev.fk (x := "check_machine") (st := G.s_check_machine) rfl rfl rfl rfl ?fa25 ?fl25 ?fc25 ?fk25) ?_
      (case fa25 => k_is); (case fl25 => k_is); (case fc25 => k_is); (case fk25 => k_is)
      refine' .cons (Ev.fk (x := "is_whole") (st := G.s_is_whole) rfl rfl rfl rfl ?fa26 ?fl26 ?fc26 ?fk26) ?_
      (case fa26 => k_is); (case fl26 => k_is); (case fc26 => k_is); (case fk26 => k_is)
      refine' .cons (Ev.fk (x := "is_power") (st := G.s_is_power_2) rfl rfl rfl rfl ?fa27 ?fl27 ?fc27 ?fk27) ?_
      (case fa27 => k_is); (case fl27 => k_is); (case fc27 => k_is); (case fk27 => k_is)
      refine' .cons (Ev.fk (x := "hand_number") (st := G.s_hand_number) rfl rfl rfl rfl ?fa28 ?fl28 ?fc28 ?fk28) ?_
      (case fa28 => k_is); (case fl28 => k_is); (case fc28 => k_is); (case fk28 => k_is)
      refine' .cons (Ev.fk (x := "is_letter") (st := G.s_is_letter) rfl rfl rfl rfl ?fa29 ?fl29 ?fc29 ?fk29) ?_
      (case fa29 => k_is); (case fl29 => k_is); (case fc29 => k_is); (case fk29 => k_is)
      refine' .cons (Ev.fk (x := "is_tuple") (st := G.s_is_tuple) rfl rfl rfl rfl ?fa30 ?fl30 ?fc30 ?fk30) ?_
      (case fa30 => k_is); (case fl30 => k_is); (case fc30 => k_is); (case fk30 => k_is)
      refine' .cons (Ev.fk (x := "is_syllable") (st := G.s_is_syllable) rfl rfl rfl rfl ?fa31 ?fl31 ?fc31 ?fk31) ?_
      (case fa31 => k_is); (case fl31 => k_is); (case fc31 => k_is); (case fk31 => k_is)
      refine' .cons (Ev.fk (x := "is_word") (st := G.s_is_word) rfl rfl rfl rfl ?fa32 ?fl32 ?fc32 ?fk32) ?_
      (case fa32 => k_is); (case fl32 => k_is); (case fc32 => k_is); (case fk32 => k_is)
      refine' .cons (Ev.fk (x := "check_word") (st := G.s_check_word) rfl rfl rfl rfl ?fa33 ?fl33 ?fc33 ?fk33) ?_
      (case fa33 => k_is); (case fl33 => k_is); (case fc33 => k_is); (case fk33 => k_is)
      refine' .cons (Ev.fk (x := "check_plain_word") (st := G.s_check_plain_word) rfl rfl rfl rfl ?fa34 ?fl34 ?fc34 ?fk34) ?_
      (case fa34 => k_is); (case fl34 => k_is); (case fc34 => k_is); (case fk34 => k_is)
      refine' .cons (Ev.fk (x := "put_together") (st := G.s_put_together) rfl rfl rfl rfl ?fa35 ?fl35 ?fc35 ?fk35) ?_
      (case fa35 => k_is); (case fl35 => k_is); (case fc35 => k_is); (case fk35 => k_is)
      refine' .cons (Ev.fk (x := "times_of") (st := G.s_times_of) rfl rfl rfl rfl ?fa36 ?fl36 ?fc36 ?fk36) ?_
      (case fa36 => k_is); (case fl36 => k_is); (case fc36 => k_is); (case fk36 => k_is)
      refine' .cons (Ev.fk (x := "form_of") (st := G.s_form_of) rfl rfl rfl rfl ?fa37 ?fl37 ?fc37 ?fk37) ?_
      (case fa37 => k_is); (case fl37 => k_is); (case fc37 => k_is); (case fk37 => k_is)
      refine' .cons (Ev.fk (x := "lacking") (st := G.s_lacking) rfl rfl rfl rfl ?fa38 ?fl38 ?fc38 ?fk38) ?_
      (case fa38 => k_is); (case fl38 => k_is); (case fc38 => k_is); (case fk38 => k_is)
      refine' .cons (Ev.fk (x := "exchanged_row") (st := G.s_exchanged_row) rfl rfl rfl rfl ?fa39 ?fl39 ?fc39 ?fk39) ?_
      (case fa39 => k_is); (case fl39 => k_is); (case fc39 => k_is); (case fk39 => k_is)
      refine' .cons (Ev.fk (x := "exchanged_of") (st := G.s_exchanged_of) rfl rfl rfl rfl ?fa40 ?fl40 ?fc40 ?fk40) ?_
      (case fa40 => k_is); (case fl40 => k_is); (case fc40 => k_is); (case fk40 => k_is)
      refine' .cons (Ev.fk (x := "lack_of") (st := G.s_lack_of) rfl rfl rfl rfl ?fa41 ?fl41 ?fc41 ?fk41) ?_
      (case fa41 => k_is); (case fl41 => k_is); (case fc41 => k_is); (case fk41 => k_is)
      refine' .cons (Ev.fk (x := "carried") (st := G.s_carried) rfl rfl rfl rfl ?fa42 ?fl42 ?fc42 ?fk42) ?_
      (case fa42 => k_is); (case fl42 => k_is); (case fc42 => k_is); (case fk42 => k_is)
      refine' .cons (Ev.fk (x := "passed_of") (st := G.s_passed_of) rfl rfl rfl rfl ?fa43 ?fl43 ?fc43 ?fk43) ?_
      (case fa43 => k_is); (case fl43 => k_is); (case fc43 => k_is); (case fk43 => k_is)
      refine' .cons (Ev.fk (x := "tower_of") (st := G.s_tower_of) rfl rfl rfl rfl ?fa44 ?fl44 ?fc44 ?fk44) ?_
      (case fa44 => k_is); (case fl44 => k_is); (case fc44 => k_is); (case fk44 => k_is)
      refine' .cons (Ev.fk (x := "tower") (st := G.s_tower) rfl rfl rfl rfl ?fa45 ?fl45 ?fc45 ?fk45) ?_
      (case fa45 => k_is); (case fl45 => k_is); (case fc45 => k_is); (case fk45 => k_is)
      refine' .cons (Ev.fk (x := "is_empty_of") (st := G.s_is_empty_of) rfl rfl rfl rfl ?fa46 ?fl46 ?fc46 ?fk46) ?_
      (case fa46 => k_is); (case fl46 => k_is); (case fc46 => k_is); (case fk46 => k_is)
      refine' .cons (Ev.fk (x := "is_empty") (st := G.s_is_empty) rfl rfl rfl rfl ?fa47 ?fl47 ?fc47 ?fk47) ?_
      (case fa47 => k_is); (case fl47 => k_is); (case fc47 => k_is); (case fk47 => k_is)
      refine' .cons (Ev.fk (x := "_law_undone") (st := G.s_law_undone) rfl rfl rfl rfl ?fa48 ?fl48 ?fc48 ?fk48) ?_
      (case fa48 => k_is); (case fl48 => k_is); (case fc48 => k_is); (case fk48 => k_is)
      refine' .cons (Ev.fk (x := "undone_of") (st := G.s_undone_of) rfl rfl rfl rfl ?fa49 ?fl49 ?fc49 ?fk49) ?_
      (case fa49 => k_is); (case fl49 => k_is); (case fc49 => k_is); (case fk49 => k_is)
      refine' .cons (Ev.fk (x := "alike_of") (st := G.s_alike_of) rfl rfl rfl rfl ?fa50 ?fl50 ?fc50 ?fk50) ?_
      (case fa50 => k_is); (case fl50 => k_is); (case fc50 => k_is); (case fk50 => k_is)
      refine' .cons (Ev.fk (x := "alike") (st := G.s_alike) rfl rfl rfl rfl ?fa51 ?fl51 ?fc51 ?fk51) ?_
      (case fa51 => k_is); (case fl51 => k_is); (case fc51 => k_is); (case fk51 => k_is)
      refine' .cons (Ev.fk (x := "_law_bent_syllable") (st := G.s_law_bent_syllable) rfl rfl rfl rfl ?fa52 ?fl52 ?fc52 ?fk52) ?_
      (case fa52 => k_is); (case fl52 => k_is); (case fc52 => k_is); (case fk52 => k_is)
      refine' .cons (Ev.fk (x := "_law_form") (st := G.s_law_form) rfl rfl rfl rfl ?fa53 ?fl53 ?fc53 ?fk53) ?_
      (case fa53 => k_is); (case fl53 => k_is); (case fc53 => k_is); (case fk53 => k_is)
      refine' .cons (Ev.fk (x := "_law_tower") (st := G.s_law_tower) rfl rfl rfl rfl ?fa54 ?fl54 ?fc54 ?fk54) ?_
      (case fa54 => k_is); (case fl54 => k_is); (case fc54 => k_is); (case fk54 => k_is)
      refine' .cons (Ev.fk (x := "_law_is_empty") (st := G.s_law_is_empty) rfl rfl rfl rfl ?fa55 ?fl55 ?fc55 ?fk55) ?_
      (case fa55 => k_is); (case fl55 => k_is); (case fc55 => k_is); (case fk55 => k_is)
      refine' .cons (Ev.fk (x := "_law_right") (st := G.s_law_right_7) rfl rfl rfl rfl ?fa56 ?fl56 ?fc56 ?fk56) ?_
      (case fa56 => k_is); (case fl56 => k_is); (case fc56 => k_is); (case fk56 => k_is)
      refine' .cons (Ev.fk (x := "_law_pot") (st := G.s_law_pot) rfl rfl rfl rfl ?fa57 ?fl57 ?fc57 ?fk57) ?_
      (case fa57 => k_is); (case fl57 => k_is); (case fc57 => k_is); (case fk57 => k_is)
      refine' .cons (Ev.fk (x := "law") (st := G.s_law_7) rfl rfl rfl rfl ?fa58 ?fl58 ?fc58 ?fk58) ?_
      (case fa58 => k_is); (case fl58 => k_is); (case fc58 => k_is); (case fk58 => k_is)
      exact .nil
    case DC =>
      refine' .cons (x := "FEED") rfl ?ca0 ?co0 ?_
      (case ca0 => k_is); (case co0 => kernel_rfl)
      refine' .cons (x := "BLANK") rfl ?ca1 ?co1 ?_
      (case ca1 => k_is); (case co1 => kernel_rfl)
      refine' .cons (x := "FIGURES_pairs") rfl ?ca2 ?co2 ?_
      (case ca2 => k_is); (case co2 => kernel_rfl)
      refine' .cons (x := "PAIR_plain") rfl ?ca3 ?co3 ?_
      (case ca3 => k_is); (case co3 => kernel_rfl)
      refine' .cons (x := "MINUS") rfl ?ca4 ?co4 ?_
      (case ca4 => k_is); (case co4 => kernel_rfl)
      refine' .cons (x := "FIGURES_plain") rfl ?ca5 ?co5 ?_
      (case ca5 => k_is); (case co5 => kernel_rfl)
      refine' .cons (x := "LEAST_FIGURES") rfl ?ca6 ?co6 ?_
      (case ca6 => k_is); (case co6 => kernel_rfl)
      refine' .cons (x := "MOST_FIGURES") rfl ?ca7 ?co7 ?_
      (case ca7 => k_is); (case co7 => kernel_rfl)
      refine' .cons (x := "SIDES") rfl ?ca8 ?co8 ?_
      (case ca8 => k_is); (case co8 => kernel_rfl)
      refine' .cons (x := "ROW") rfl ?ca9 ?co9 ?_
      (case ca9 => k_is); (case co9 => kernel_rfl)
      refine' .cons (x := "ROW_WORDS") rfl ?ca10 ?co10 ?_
      (case ca10 => k_is); (case co10 => kernel_rfl)
      refine' .cons (x := "END") rfl ?ca11 ?co11 ?_
      (case ca11 => k_is); (case co11 => kernel_rfl)
      refine' .cons (x := "GROUND_words") rfl ?ca12 ?co12 ?_
      (case ca12 => k_is); (case co12 => kernel_rfl)
      refine' .cons (x := "SIGNS") rfl ?ca13 ?co13 ?_
      (case ca13 => k_is); (case co13 => kernel_rfl)
      refine' .cons (x := "K_words") rfl ?ca14 ?co14 ?_
      (case ca14 => k_is); (case co14 => kernel_rfl)
      refine' .cons (x := "HAND") rfl ?ca15 ?co15 ?_
      (case ca15 => k_is); (case co15 => kernel_rfl)
      refine' .cons (x := "K_hands") rfl ?ca16 ?co16 ?_
      (case ca16 => k_is); (case co16 => kernel_rfl)
      refine' .cons (x := "EMPTY") rfl ?ca17 ?co17 ?_
      (case ca17 => k_is); (case co17 => kernel_rfl)
      refine' .cons (x := "GROUND_hands") rfl ?ca18 ?co18 ?_
      (case ca18 => k_is); (case co18 => kernel_rfl)
      refine' .cons (x := "X_words") rfl ?ca19 ?co19 ?_
      (case ca19 => k_is); (case co19 => kernel_rfl)
      refine' .cons (x := "Y_words") rfl ?ca20 ?co20 ?_
      (case ca20 => k_is); (case co20 => kernel_rfl)
      refine' .cons (x := "PAIR_hands") rfl ?ca21 ?co21 ?_
      (case ca21 => k_is); (case co21 => kernel_rfl)
      refine' .cons (x := "RIGHT") rfl ?ca22 ?co22 ?_
      (case ca22 => k_is); (case co22 => kernel_rfl)
      refine' .cons (x := "X_hands") rfl ?ca23 ?co23 ?_
      (case ca23 => k_is); (case co23 => kernel_rfl)
      refine' .cons (x := "Y_hands") rfl ?ca24 ?co24 ?_
      (case ca24 => k_is); (case co24 => kernel_rfl)
      refine' .cons (x := "T_hands") rfl ?ca25 ?co25 ?_
      (case ca25 => k_is); (case co25 => kernel_rfl)
      exact .nil
    case DB =>
      refine' .cons (x := "all") ?ba0 ?_
      (case ba0 => k_is)
      refine' .cons (x := "list") ?ba1 ?_
      (case ba1 => k_is)
      refine' .cons (x := "range") ?ba2 ?_
      (case ba2 => k_is)
      refine' .cons (x := "max") ?ba3 ?_
      (case ba3 => k_is)
      refine' .cons (x := "min") ?ba4 ?_
      (case ba4 => k_is)
      refine' .cons (x := "len") ?ba5 ?_
      (case ba5 => k_is)
      refine' .cons (x := "int") ?ba6 ?_
      (case ba6 => k_is)
      refine' .cons (x := "isinstance") ?ba7 ?_
      (case ba7 => k_is)
      refine' .cons (x := "str") ?ba8 ?_
      (case ba8 => k_is)
      refine' .cons (x := "enumerate") ?ba9 ?_
      (case ba9 => k_is)
      refine' .cons (x := "tuple") ?ba10 ?_
      (case ba10 => k_is)
      refine' .cons (x := "any") ?ba11 ?_
      (case ba11 => k_is)
      refine' .cons (x := "repr") ?ba12 ?_
      (case ba12 => k_is)
      refine' .cons (x := "bool") ?ba13 ?_
      (case ba13 => k_is)
      refine' .cons (x := "sum") ?ba14 ?_
      (case ba14 => k_is)
      refine' .cons (x := "abs") ?ba15 ?_
      (case ba15 => k_is)
      exact .nil
    case DK =>
      refine' .cons ?ka0 (Ev.clsF ?kb0 ?kc0 ?kd0 ?ke0 ?kf0 ?kg0 ?kh0 ?ki0 ?kj0 ?kk0 ?kl0 ?km0 ?kn0 ?ko0 ?kp0 ?kq0) ?_
      (case ka0 => k_is); (case kb0 => k_is); (case kc0 => k_is); (case kd0 => k_is); (case ke0 => k_is)
      case kf0 =>
        refine' .cons ?na0_0 ?_
        (case na0_0 => k_is)
        refine' .cons ?na0_1 ?_
        (case na0_1 => k_is)
        refine' .cons ?na0_2 ?_
        (case na0_2 => k_is)
        refine' .cons ?na0_3 ?_
        (case na0_3 => k_is)
        exact .nil
      (case kg0 => kit_is); (case kh0 => kit_is); (case ki0 => kit_is); (case kj0 => kit_is); (case kk0 => kit_is); (case kl0 => kit_is); (case km0 => kit_is); (case kn0 => k_is); (case ko0 => k_is); (case kp0 => k_is); (case kq0 => k_is)
      exact .nil
    case D2 =>
      refine' .cons ?za0 ?_
      case za0 =>
        refine' .cons ?zb0_0 ?_
        (case zb0_0 => kit_is)
        exact .nil
      exact .nil
