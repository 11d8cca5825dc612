import PyProof.Rows.All
import Wide.All
import OpenK.AllK
import Wide.FinOn
import HandS.ForMost
import HandS.TupAny
import HandS.Wide
import HandS.IsInst
import HandS.Conv
import HandS.Style
import HandS.Zip
import HandS.StrMore
import HandS.Replace
import KE.SortData
import KE.KeyNested
import HandS.Property
import HandS.RaiseMore
import HandS.Walk
import KE.DatumOrd
import KE.KDictDisplayH
import KE.KDictCopyH
import HandS.DictComp
import HandS.TupLe
import PyProof.Rows.RuleB_pow
import PyProof.ReprReads
import PyProof.ReprRoads
import PyProof.CallFns
import KE.KDictSum
import HandS.ExcValue
import HandS.TupLen
import HandS.Flow
import KE.GoesMore
import KE.GoesEnum
import HandS.Star
import HandS.Ends
import KE.RegKIsAll
import HandS.Text
import PyProof.StrLawsRepr
import PySem.Challenge.RW_emptywords_k11_whole_strips_led_to_pair
set_option Elab.async false
set_option linter.all false
set_option maxRecDepth 100000
set_option maxHeartbeats 4000000
/-! An evaluator of our own for a part of Python: trees for values, slots for names. -/
namespace Ev
open PySem L2

inductive Tr where
  | non | bl (b : Bool) | int (i : Int) | str (s : Str)
  | tup (l : List Tr) | lst (l : List Tr) | flst (l : List Tr)
  | dk (ks : List Key) (vs : List Tr) | dt (ks : List (List Key)) (vs : List Tr) | dn (ks : List NestedKey) (vs : List Tr)
  | ins (c : Str) (ns : List Str) (l : List Tr)
  | ob (n : Nat) | bor (i : Nat)

/-- what stands in memory and may change: a list, a dict (keys ints and texts; tuples of such), an instance -/
inductive Ob where
  | lst (l : List Tr) | dk (ks : List Key) (vs : List Tr) | dt (ks : List (List Key)) (vs : List Tr) | dn (ks : List NestedKey) (vs : List Tr)
  | ins (c : Str) (ns : List Str) (l : List Tr) | gone
noncomputable def Ob.tr : Ob → Tr
  | .lst l => .lst l
  | .dk ks vs => .dk ks vs
  | .dt ks vs => .dt ks vs
  | .dn ks vs => .dn ks vs
  | .ins c ns l => .ins c ns l
  | .gone => .non
inductive Slot where
  | none | val (t : Tr) | own (o : Ob)
structure Sta where
  env : List Slot
  mem : List Ob

inductive Op where | add | sub | mul | fdiv | mod | pow
inductive Cp where | eq | ne | lt | le | gt | ge | isN | notN | inn | nin
inductive Bi where | len | abs | int | sum | max2 | min2 | listRg | listOf | tupOf | all | any | repr | isInt | isBool | isStr | isTup | strOf | minOf | maxOf | sorted
/-- methods of built-in things -/
inductive Mt where | split | join | index | zfill | get
inductive Tg where
  | nm (i : Nat) | tp (l : List Tg)
inductive Ex where
  | var (i : Nat) | mv (i : Nat) | gl (k : Nat) | int (i : Int) | str (s : Str) | bl (b : Bool) | non | nul
  | tup (es : List Ex) | lst (es : List Ex) | shd (es : List Ex)
  | bin (o : Op) (a b : Ex) | neg (a : Ex) | cmp (o : Cp) (a b : Ex) | chain (o p : Cp) (a b c : Ex)
  | and_ (a b : Ex) | or_ (a b : Ex) | not_ (a : Ex) | ite (c a b : Ex)
  | idx (a b : Ex) | sl (a lo hi : Ex) | rev (a : Ex) | stp (a lo st : Ex)
  | call (f : Nat) (es : List Ex)
  | bi (b : Bi) (es : List Ex)
  | pop (i : Nat)
  | comp (k : Nat) (elt : Ex) (tg : Tg) (its : List Ex) (cond : Ex) (own : List Nat)
  | bad | disp (k : Nat) (bs : List Bool) (es : List Ex) | callK (f : Nat) (es ks : List Ex)
  | orV (a b : Ex) | fld (a : Ex) (f : Str) | isC (c : Str) (a : Ex) | make (f : Nat) (es : List Ex)
  | callP (f : Nat) (es ks : List Ex) (ps : List Nat)
  | dsp (es : List Ex) | meth (m : Mt) (a : Ex) (es : List Ex) | popAt (i : Nat) (e : Ex)
  | dspN (es : List Ex) | dcomp (kx vx : Ex) (tg : Tg) (a : Ex) (own : List Nat) | isE (a : Ex)
  | cmpO (o : Cp) (a b : Ex) | biO (b : Bi) (a : Ex) | mcall (c m : Str) (f : Nat) (a : Ex) (es : List Ex) | prop (c m : Str) (f : Nat) (a : Ex) | eqV (c : Str) (f : Nat) (a b : Ex) | compO (elt : Ex) (tg : Tg) (a cond : Ex) (own : List Nat)
inductive Sm where
  | set (i : Nat) (e : Ex) | own (i : Nat) (es : List Ex) | ownOf (i : Nat) (e : Ex)
  | ownD (i : Nat) (t : Bool) | dput (i : Nat) (k v : Ex) | fset (o : Ex) (f : Str) (e : Ex) | setAt (i : Nat) (k v : Ex) | ownE (i : Nat) (e : Ex)
  | many (is : List (Nat × Nat)) (es : List Ex)
  | tgt (tg : Tg) (e : Ex)
  | aug (i : Nat) (o : Op) (e : Ex)
  | put (o k v : Ex)
  | app (i : Nat) (e : Ex) | ext (i : Nat) (e : Ex) | ex (e : Ex)
  | ret (e : Ex) | retN
  | ite (c : Ex) (a b : List Sm)
  | forr (k : Nat) (tg : Tg) (its : List Ex) (b : List Sm)
  | whl (c : Ex) (b : List Sm)
  | brk | cont | pass | bad
  | appO (a e : Ex)

inductive Rs (α : Type) where
  | ok (a : α) (s : Sta) | no
noncomputable def Rs.bind {α β : Type} : Rs α → (α → Sta → Rs β) → Rs β
  | .ok a s, f => f a s
  | .no, _ => .no
theorem Rs.bind_eq {α β : Type} {r : Rs α} {f : α → Sta → Rs β} {b : β} {s' : Sta} (h : r.bind f = .ok b s') : ∃ a s, r = .ok a s ∧ f a s = .ok b s' := by
  cases r with
  | ok a s => exact ⟨a, s, rfl, h⟩
  | no => exact nomatch h
noncomputable def Rs.of {α : Type} : Option α → Sta → Rs α
  | some a, s => .ok a s
  | none, _ => .no
theorem Rs.of_eq {α : Type} {o : Option α} {s s' : Sta} {a : α} (h : Rs.of o s = .ok a s') : o = some a ∧ s = s' := by
  cases o with
  | some b => injection h with h1 h2; subst h1 h2; exact ⟨rfl, rfl⟩
  | none => exact nomatch h

/-! ### values -/
noncomputable def Tr.pure : Tr → Bool
  | .bor _ => false
  | _ => true
noncomputable def Sta.deref (s : Sta) : Tr → Tr
  | .bor i => match s.env[i]? with
    | some (.own o) => o.tr
    | some (.val t) => t
    | _ => .bor i
  | t => t
mutual
noncomputable def Tr.data : Tr → Option PyData
  | .non => some .none
  | .bl b => some (.bool b)
  | .int i => some (.int i)
  | .str s => some (.str s)
  | .tup l => match datas l with
    | some ds => some (.tuple ds)
    | none => none
  | .lst l => match datas l with
    | some ds => some (.list ds)
    | none => none
  | .flst l => match datas l with
    | some ds => some (.list ds)
    | none => none
  | .dk _ _ => none
  | .dt _ _ => none
  | .dn _ _ => none
  | .ins _ _ _ => none
  | .ob _ => none
  | .bor _ => none
noncomputable def datas : List Tr → Option (List PyData)
  | [] => some []
  | t :: l => match t.data, datas l with
    | some d, some ds => some (d :: ds)
    | _, _ => none
end
noncomputable def eqD (x y : Tr) : Option Bool := match x.data, y.data with
  | some d, some e => if SeqAt.shaped d && SeqAt.shaped e then some (PyData.eqv d e) else none
  | _, _ => none
noncomputable def eqT (x y : Tr) : Option Bool := match x, y with
  | .str a, .str b => some (decide (a = b))
  | .int a, .int b => some (decide (a = b))
  | x, y => eqD x y
noncomputable def reprT (x : Tr) : Option Tr := match x.data with
  | some d => if d.showable && decide (d.shown.length ≤ sizeLine) && decide (d.depth ≤ 64) then some (.str d.shown) else none
  | none => none
/-! ### dicts, instances -/
noncomputable def keyT : Tr → Option Key
  | .int i => some (.inl i)
  | .str x => some (.inr x)
  | _ => none
noncomputable def keysT : List Tr → Option (List Key)
  | [] => some []
  | t :: l => match keyT t, keysT l with
    | some k, some ks => some (k :: ks)
    | _, _ => none
mutual
/-- a key of any depth -/
noncomputable def keyN : Tr → Option NestedKey
  | .non => some .none
  | .int i => some (.num i)
  | .str x => some (.text x)
  | .tup l => match keysN l with
    | some ks => some (.tup ks)
    | none => none
  | _ => none
noncomputable def keysN : List Tr → Option (List NestedKey)
  | [] => some []
  | t :: l => match keyN t, keysN l with
    | some k, some ks => some (k :: ks)
    | _, _ => none
end
/-- a tuple for a key, not too deep -/
noncomputable def nkey : Tr → Option NestedKey
  | .tup l => match keyN (.tup l) with
    | some k => if k.depth ≤ 8 then some k else none
    | none => none
  | _ => none
noncomputable def getK {κ : Type} [DecidableEq κ] (x : κ) : List κ → List Tr → Option Tr
  | k :: ks, v :: vs => if k = x then some v else getK x ks vs
  | _, _ => none
noncomputable def putV {κ : Type} [DecidableEq κ] (ks : List κ) (vs : List Tr) (x : κ) (t : Tr) : List κ × List Tr :=
  if ks.any (fun k => decide (k = x)) = true then (ks, List.zipWith (fun k v => if k = x then t else v) ks vs) else (ks ++ [x], vs ++ [t])
/-- an attribute is stored -/
noncomputable def setF : List Str → List Tr → Str → Tr → List Str × List Tr
  | n :: ns, x :: l, f, t => if n = f then (n :: ns, t :: l) else (n :: (setF ns l f t).1, x :: (setF ns l f t).2)
  | _, _, f, t => ([f], [t])
/-- a look-up: none where it is none of ours -/
noncomputable def dgetT : Tr → Tr → Option (Option Tr)
  | .dk ks vs, y => (keyT y).map fun k => getK k ks vs
  | .dt ks vs, .tup l => (keysT l).map fun k => getK k ks vs
  | .dn ks vs, y => (nkey y).map fun k => getK k ks vs
  | _, _ => none
/-- the pairs of a display, flat -/
noncomputable def dspT : List Tr → Option (List Key × List Tr)
  | [] => some ([], [])
  | k :: v :: r => match keyT k, dspT r with
    | some k, some (ks, vs) => some (k :: ks, v :: vs)
    | _, _ => none
  | _ => none
/-- the pairs of a display with tuples for keys -/
noncomputable def dspN : List Tr → Option (List (List Key) × List Tr)
  | [] => some ([], [])
  | .tup l :: v :: r => match keysT l, dspN r with
    | some k, some (ks, vs) => some (k :: ks, v :: vs)
    | _, _ => none
  | _ => none
/-- a key as a value -/
noncomputable def keyTr : Key → Tr
  | .inl i => .int i
  | .inr x => .str x
noncomputable def keyTup (k : List Key) : Tr := .tup (k.map keyTr)
/-- is it an instance of one of our classes -/
noncomputable def isCT (c : Str) : Tr → Option Tr
  | .ins c' _ _ => some (.bl (decide (c' = c)))
  | .non => some (.bl false)
  | .bl _ => some (.bl false)
  | .int _ => some (.bl false)
  | .str _ => some (.bl false)
  | .tup _ => some (.bl false)
  | .lst _ => some (.bl false)
  | .dk _ _ => some (.bl false)
  | _ => none
noncomputable def flat : Tr → Option V
  | .non => some .non
  | .bl b => some (.bl b)
  | .int i => some (.int i)
  | .str s => some (.str s)
  | _ => none
noncomputable def flats : List Tr → Option (List V)
  | [] => some []
  | t :: l => match flat t, flats l with
    | some v, some vs => some (v :: vs)
    | _, _ => none
/-- x among data of any depth -/
noncomputable def inQ (x y : Tr) : Option Bool := match x.data, y.data with
  | some d, some (.list ds) => if SeqAt.shaped d && SeqAt.shaped (.list ds) && decide (d.depth ≤ 60) then some (ds.any fun z => PyData.eqv z d) else none
  | some d, some (.tuple ds) => if SeqAt.shaped d && SeqAt.shaped (.tuple ds) && decide (d.depth ≤ 60) then some (ds.any fun z => PyData.eqv z d) else none
  | _, _ => none
noncomputable def inT (x y : Tr) : Option Bool := match y with
  | .tup l | .lst l | .flst l => match flat x, flats l with
    | some v, some vs => some (inV v vs)
    | _, _ => inQ x y
  | .str z => match x with
    | .str y => some (!(Builtin.Str.occurrences z y 0 z.length 1).isEmpty)
    | _ => none
  | .dk ks vs => (dgetT (.dk ks vs) x).map Option.isSome
  | .dt ks vs => (dgetT (.dt ks vs) x).map Option.isSome
  | .dn ks vs => (dgetT (.dn ks vs) x).map Option.isSome
  | _ => none
noncomputable def opB : Op → Tr → Tr → Option Tr
  | .add, .int i, .int j => some (.int (i + j))
  | .add, .str a, .str b => if a.length + b.length ≤ sizeLine then some (.str (a ++ b)) else none
  | .add, .tup a, .tup b => if a.length + b.length ≤ sizeLine then some (.tup (a ++ b)) else none
  | .add, .lst a, .lst b => if a.length + b.length ≤ sizeLine then some (.lst (a ++ b)) else none
  | .sub, .int i, .int j => some (.int (i - j))
  | .mul, .int i, .int j => if i.natAbs.log2 + j.natAbs.log2 < 1000000 then some (.int (i * j)) else none
  | .mul, .lst l, .int k => if -(2 ^ 63) ≤ k ∧ k < 2 ^ 63 ∧ l.length * k.toNat ≤ sizeLine then some (.lst (List.replicate k.toNat l).flatten) else none
  | .fdiv, .int i, .int j => if 0 < j ∧ j.natAbs.log2 < 9000 then some (.int (i / j)) else none
  | .mod, .int i, .int j => if 0 < j then some (.int (i % j)) else none
  | .pow, .int i, .int j => if 0 ≤ j ∧ (Builtin.Int.intBits i : Int) * j ≤ 2 ^ 27 then some (.int (i ^ j.toNat)) else none
  | _, _, _ => none
noncomputable def opC : Cp → Tr → Tr → Option Bool
  | .eq, x, y => eqT x y
  | .ne, x, y => (eqT x y).map (!·)
  | .lt, .int i, .int j => some (decide (i < j))
  | .le, .int i, .int j => some (decide (i ≤ j))
  | .gt, .int i, .int j => some (decide (j < i))
  | .ge, .int i, .int j => some (decide (j ≤ i))
  | .isN, x, .non => match x with
    | .non => some true
    | _ => some false
  | .notN, x, .non => match x with
    | .non => some false
    | _ => some true
  | .isN, .bl a, .bl b => some (decide (a = b))
  | .notN, .bl a, .bl b => some (!decide (a = b))
  | .inn, x, y => inT x y
  | .nin, x, y => (inT x y).map (!·)
  | _, _, _ => none
noncomputable def opC2 (o : Cp) (x y : Tr) : Option Bool := if x.pure && y.pure then opC o x y else none
noncomputable def truth : Tr → Option Bool
  | .non => some false
  | .bl b => some b
  | .int i => some (i != 0)
  | .tup l => some !l.isEmpty
  | .lst l => some !l.isEmpty
  | .str x => if x.length ≤ sizeLine then some ((x.length : Int) != 0) else none
  | _ => none
noncomputable def idxT : Tr → Tr → Option Tr
  | .tup l, .int i => atI l i
  | .lst l, .int i => atI l i
  | .flst l, .int i => atI l i
  | .str z, .int i => if z.length ≤ sizeLine then (atI z.cps.toList i).map fun c => .str ⟨#[c]⟩ else none
  | .dk ks vs, y => (dgetT (.dk ks vs) y).bind id
  | .dt ks vs, y => (dgetT (.dt ks vs) y).bind id
  | .dn ks vs, y => (dgetT (.dn ks vs) y).bind id
  | _, _ => none
noncomputable def cutT (l : List Tr) (lo hi : Option Int) : List Tr := (l.drop (HT.sIx l.length 0 lo)).take (HT.sIx l.length l.length hi - HT.sIx l.length 0 lo)
noncomputable def slT : Tr → Option Int → Option Int → Option Tr
  | .tup l, lo, hi => some (.tup (cutT l lo hi))
  | .lst l, lo, hi => some (.lst (cutT l lo hi))
  | .flst l, lo, hi => some (.lst (cutT l lo hi))
  | .str z, lo, hi => if z.length ≤ sizeLine then some (.str (cutS z lo hi)) else none
  | _, _, _ => none
noncomputable def intsOf : List Tr → Option (List Int)
  | [] => some []
  | .int i :: l => match intsOf l with
    | some is => some (i :: is)
    | none => none
  | _ => none
noncomputable def boolsOf : List Tr → Option (List Bool)
  | [] => some []
  | .bl i :: l => match boolsOf l with
    | some is => some (i :: is)
    | none => none
  | _ => none
/-- a number's size, so that no checker unfolds it -/
noncomputable def in62 (n : Int) : Bool := Nat.blt n.natAbs.log2 61
theorem in62_ok {n : Int} (h : in62 n = true) : -(2 ^ 62) ≤ n ∧ n < 2 ^ 62 := by
  have h1 : n.natAbs.log2 < 61 := by simpa [in62, Nat.blt_eq] using h
  have h2 : n.natAbs < 2 ^ 61 := Nat.lt_of_lt_of_le Nat.lt_log2_self (Nat.pow_le_pow_right (by omega) h1)
  omega
theorem in62_of {n : Int} (h : n.natAbs < 2 ^ 61) : in62 n = true := by
  have h1 : n.natAbs.log2 < 61 := by
    by_cases z : n.natAbs = 0
    · rw [z]; decide
    · exact (Nat.log2_lt z).mpr h
  simpa [in62, Nat.blt_eq] using h1
noncomputable def strsOf : List Tr → Option (List Str)
  | [] => some []
  | .str i :: l => match strsOf l with
    | some is => some (i :: is)
    | none => none
  | _ => none
noncomputable def minI : Int → List Int → Int
  | m, [] => m
  | m, x :: l => minI (if x < m then x else m) l
noncomputable def maxI : Int → List Int → Int
  | m, [] => m
  | m, x :: l => maxI (if m < x then x else m) l
/-- sorted: the data that the items are, in the order of the data -/
noncomputable def dat (t : Tr) : PyData := t.data.getD .none
noncomputable def isTup1 : PyData → Bool
  | .tuple (_ :: _) => true
  | _ => false
noncomputable def notTupN : PyData → Bool
  | .tuple _ => false
  | .none => false
  | _ => true
noncomputable def sortOk (l : List Tr) : Bool := l.all (fun t => t.data.isSome && decide ((dat t).depth ≤ 64)) && (l.map dat).all (fun d => (l.map dat).all fun d' => PySem.W.alike d d') && ((l.map dat).all isTup1 || (l.map dat).all notTupN)
noncomputable def sortT (l : List Tr) : Option Tr := if sortOk l = true then some (.lst (l.mergeSort (PySem.W.dataLe false dat))) else none
noncomputable def rgT (a b : Int) : List Tr := (List.range (b - a).toNat).map fun (i : Nat) => Tr.int (a + i)
noncomputable def biT (b : Bi) (ts : List Tr) : Option Tr := match b with
  | .len => match ts with
    | [.tup l] => some (.int l.length)
    | [.lst l] => some (.int l.length)
    | [.flst l] => some (.int l.length)
    | [.str z] => if z.length ≤ sizeLine then some (.int z.length) else none
    | [.dk ks _] => some (.int ks.length)
    | [.dt ks _] => some (.int ks.length)
    | _ => none
  | .strOf => match ts with
    | [.int i] => if i.natAbs.log2 < 1920 then some (.str (toString i)) else none
    | [.str x] => some (.str x)
    | _ => none
  | .minOf => match ts with
    | [.tup l] => match intsOf l with
        | some (i :: is) => some (.int (minI i is))
        | _ => none
    | [.lst l] => match intsOf l with
        | some (i :: is) => some (.int (minI i is))
        | _ => none
    | _ => none
  | .maxOf => match ts with
    | [.lst l] => match intsOf l with
        | some (i :: is) => some (.int (maxI i is))
        | _ => none
    | [.tup l] => match intsOf l with
        | some (i :: is) => some (.int (maxI i is))
        | _ => none
    | _ => none
  | .sorted => match ts with
    | [.lst l] => sortT l
    | [.flst l] => sortT l
    | [.dt ks _] => sortT (ks.map keyTup)
    | _ => none
  | .abs => match ts with
    | [.int i] => some (.int (if i < 0 then -i else i))
    | _ => none
  | .int => match ts with
    | [.int i] => some (.int i)
    | [.bl k] => some (.int (if k then 1 else 0))
    | [.str z] => match PySem.intText? z with
        | some n => if z.length ≤ 640 then some (.int n) else none
        | none => none
    | _ => none
  | .sum => match ts with
    | [.lst l] => (intsOf l).map fun is => .int is.sum
    | [.flst l] => (intsOf l).map fun is => .int is.sum
    | _ => none
  | .max2 => match ts with
    | [.int i, .int j] => some (.int (if j > i then j else i))
    | _ => none
  | .min2 => match ts with
    | [.int i, .int j] => some (.int (if j < i then j else i))
    | _ => none
  | .listRg => match ts with
    | [.int n] => if decide (0 ≤ n) && Nat.ble n.natAbs 16777216 then some (.lst (rgT 0 n)) else none
    | _ => none
  | .listOf => match ts with
    | [.tup l] => some (.lst l)
    | [.lst l] => some (.lst l)
    | [.flst l] => some (.lst l)
    | _ => none
  | .tupOf => match ts with
    | [.tup l] => some (.tup l)
    | [.lst l] => some (.tup l)
    | [.flst l] => some (.tup l)
    | _ => none
  | .all => match ts with
    | [.lst l] => (boolsOf l).map fun bs => .bl (bs.all id)
    | _ => none
  | .any => match ts with
    | [.lst l] => (boolsOf l).map fun bs => .bl (bs.any id)
    | _ => none
  | .repr => match ts with
    | [x] => reprT x
    | _ => none
  | .isInt => match ts with
    | [x] => match x with
        | .int _ => some (.bl true)
        | .bl _ => some (.bl true)
        | .ob _ => none
        | .bor _ => none
        | .flst _ => none
        | .dt _ _ => none
        | .dn _ _ => none
        | .ins _ _ _ => none
        | _ => some (.bl false)
    | _ => none
  | .isBool => match ts with
    | [x] => match x with
        | .bl _ => some (.bl true)
        | .ob _ => none
        | .bor _ => none
        | .flst _ => none
        | .dt _ _ => none
        | .dn _ _ => none
        | .ins _ _ _ => none
        | _ => some (.bl false)
    | _ => none
  | .isStr => match ts with
    | [x] => match x with
        | .str _ => some (.bl true)
        | .ob _ => none
        | .bor _ => none
        | .flst _ => none
        | .dt _ _ => none
        | .dn _ _ => none
        | .ins _ _ _ => none
        | _ => some (.bl false)
    | _ => none
  | .isTup => match ts with
    | [x] => match x with
        | .tup _ => some (.bl true)
        | .ob _ => none
        | .bor _ => none
        | .flst _ => none
        | .dt _ _ => none
        | .dn _ _ => none
        | .ins _ _ _ => none
        | _ => some (.bl false)
    | _ => none
/-- arguments in the parameters' sequence -/
noncomputable def pick {α : Type} (ps : List Nat) (us : List α) : List α := ps.filterMap fun i => us[i]?
noncomputable def joinT (a : Str) (l : List Tr) : Option Tr := match strsOf l with
  | some ys => if (ys.map (·.length)).sum + ys.length * a.length ≤ 16777216 then some (.str (Txt.join a ys)) else none
  | none => none
noncomputable def mtT : Mt → Tr → List Tr → Option Tr
  | .split, .str a, [.str b] => if (b.length == 0) = false ∧ a.length + 2 ≤ sizeLine then some (.lst ((Txt.split a b).map .str)) else none
  | .join, .str a, [.lst l] => joinT a l
  | .join, .str a, [.tup l] => joinT a l
  | .index, .str a, [.str b] => match Builtin.Str.occurrences a b 0 a.length 1 with
    | i :: _ => some (.int (i : Nat))
    | [] => none
  | .zfill, .str a, [.int i] => if PadOk i = true then some (.str (Txt.zfill a i)) else none
  | .get, d, [y] => (dgetT d y).map fun o => o.getD .non
  | .get, d, [y, z] => if (flat z).isSome = true then (dgetT d y).map fun o => o.getD z else none
  | _, _, _ => none
/-- what a method's receiver is -/
noncomputable def recvOk : Mt → Tr → Bool
  | .get, .dk _ _ => true
  | .get, .dt _ _ => true
  | .get, .dn _ _ => true
  | .get, _ => false
  | _, .str _ => true
  | _, _ => false
noncomputable def seqT : Tr → Option (List Tr)
  | .tup l => some l
  | .lst l => some l
  | .flst l => some l
  | _ => none
noncomputable def enumT (l : List Tr) : List Tr := (List.range l.length).zipWith (fun (i : Nat) x => .tup [.int i, x]) l
noncomputable def zipT (l m : List Tr) : List Tr := l.zipWith (fun x y => .tup [x, y]) m
/-- what a loop walks: 0 a sequence, 1 range(n), 2 range(a, b), 3 enumerate, 4 zip -/
noncomputable def halfT {α : Type} : List α → List α
  | [] => []
  | [x] => [x]
  | x :: _ :: r => x :: halfT r
theorem halfT_len {α : Type} : ∀ l : List α, (halfT l).length ≤ l.length
  | [] => Nat.le_refl _
  | [_] => Nat.le_refl _
  | _ :: _ :: r => by
    have := halfT_len r
    simp only [halfT, List.length_cons]
    omega
noncomputable def zip3T : List Tr → List Tr → List Tr → List Tr
  | x :: xs, y :: ys, z :: zs => .tup [x, y, z] :: zip3T xs ys zs
  | _, _, _ => []
noncomputable def rg3T (a c : Int) (n : Nat) : List Tr := (List.range n).map fun (i : Nat) => Tr.int (a + i * c)
noncomputable def rg3Ok (a b c : Int) : Bool := decide (c ≠ 0) && decide (c.natAbs < 1073741824) && Builtin.Range.small a b c && decide (0 ≤ Builtin.Range.rangeSize a b c)
noncomputable def items : Nat → List Tr → Option (List Tr)
  | 0, [.str z] => some (z.cps.toList.map fun c => .str ⟨#[c]⟩)
  | 0, [t] => seqT t
  | 1, [.int n] => if in62 n then some (rgT 0 n) else none
  | 2, [.int a, .int b] => if in62 a && in62 b then some (rgT a b) else none
  | 3, [t] => (seqT t).map enumT
  | 4, [.tup l, .tup m] => some (zipT l m)
  | 4, [.lst l, .lst m] => some (zipT l m)
  | 5, [.tup l, .tup m, .tup n] => some (zip3T l m n)
  | 6, [.int a, .int b, .int c] => if rg3Ok a b c then some (rg3T a c (Builtin.Range.rangeSize a b c).toNat) else none
  | _, _ => none
mutual
noncomputable def asg : Tg → Tr → List Slot → Option (List Slot)
  | .nm i, t, env => if t.pure && decide (i < env.length) then some (env.set i (.val t)) else none
  | .tp gs, .tup l, env => asgs gs l env
  | .tp _, _, _ => none
noncomputable def asgs : List Tg → List Tr → List Slot → Option (List Slot)
  | [], [], env => some env
  | g :: gs, t :: l, env => match asg g t env with
    | some env' => asgs gs l env'
    | none => none
  | _, _, _ => none
end
noncomputable def Slot.lock : Slot → Slot
  | .own _ => .none
  | s => s
noncomputable def wipeE (env : List Slot) : List Nat → List Slot
  | [] => env
  | v :: vs => (wipeE env vs).set v .none
noncomputable def isNul : Ex → Bool
  | .nul => true
  | _ => false
/-- an expression that changes nothing -/
noncomputable def quiet : Ex → Bool
  | .var _ => true
  | .gl _ => true
  | .int _ => true
  | .str _ => true
  | .non => true
  | .tup es => quiets es
  | .cmp _ a b => quiet a && quiet b
  | .sl a lo hi => quiet a && (isNul lo || quiet lo) && (isNul hi || quiet hi)
  | .idx a b => quiet a && quiet b
  | _ => false
where quiets : List Ex → Bool
  | [] => true
  | e :: es => quiet e && quiets es
/-- a comprehension's turns: what is made so far, backward order not used -/
noncomputable def compGo (f : Tr → List Ob → Option (Option Tr × List Ob)) : List Tr → List Ob → List Tr → Option (List Tr × List Ob)
  | [], m, acc => some (acc, m)
  | x :: xs, m, acc => match f x m with
    | some (some y, m') => if acc.length < sizeLine then compGo f xs m' (acc ++ [y]) else none
    | some (none, m') => compGo f xs m' acc
    | none => none

noncomputable def compF (tg : Tg) (env0 : List Slot) (cnd el : Sta → Rs Tr) (x : Tr) (m : List Ob) : Option (Option Tr × List Ob) := match asg tg x env0 with
  | some env1 => match cnd ⟨env1, m⟩ with
    | .ok (.bl true) s2 => (match el s2 with
      | .ok y s3 => if y.pure then some (some y, s3.mem) else none
      | .no => none)
    | .ok (.bl false) s2 => some (none, s2.mem)
    | _ => none
  | none => none
/-- a dict's comprehension: a key and its value -/
noncomputable def dcF (tg : Tg) (env0 : List Slot) (m : List Ob) (kx vx : Sta → Rs Tr) (x : Tr) : Option (List Key × Tr) := match asg tg x env0 with
  | some env1 => match kx ⟨env1, m⟩, vx ⟨env1, m⟩ with
    | .ok (.tup l) _, .ok z _ => if z.pure then (keysT l).map fun k => (k, z) else none
    | _, _ => none
  | none => none
noncomputable def dcGo (f : Tr → Option (List Key × Tr)) : List Tr → List (List Key) → List Tr → Option (List (List Key) × List Tr)
  | [], ks, vs => some (ks, vs)
  | x :: xs, ks, vs => match f x with
    | some (k, z) => if ks.length < sizeLine then dcGo f xs (putV ks vs k z).1 (putV ks vs k z).2 else none
    | none => none
noncomputable abbrev CF := Nat → List Tr → List Ob → Option (Tr × List Ob)
noncomputable def fin : Bool → Rs Tr → Rs Tr
  | false, r => r
  | true, r => r.bind fun x s1 => Rs.of ((truth (s1.deref x)).map Tr.bl) s1
noncomputable def asInt : Rs Tr → Rs (Option Int)
  | .ok (.int i) s => .ok (some i) s
  | _ => .no
section
variable (gc : Nat → Option Tr) (cf : CF)
mutual
noncomputable def evX : Ex → Bool → Sta → Rs Tr
  | .var i, md, s => fin md (match s.env[i]? with
    | some (.val t) => .ok t s
    | some (.own _) => .ok (.bor i) s
    | _ => .no)
  | .mv i, md, s => fin md (match s.env[i]? with
    | some (.own o) => .ok o.tr ⟨s.env.set i (.val o.tr), s.mem⟩
    | _ => .no)
  | .gl k, md, s => fin md (Rs.of (gc k) s)
  | .int i, md, s => fin md (.ok (.int i) s)
  | .str x, md, s => fin md (.ok (.str x) s)
  | .bl b, md, s => fin md (.ok (.bl b) s)
  | .non, md, s => fin md (.ok .non s)
  | .nul, _, _ => .no
  | .tup es, md, s => fin md ((evEs es s).bind fun ts s1 => if ts.all Tr.pure && decide (ts.length ≤ sizeLine) then .ok (.tup ts) s1 else .no)
  | .lst es, md, s => fin md ((evEs es s).bind fun ts s1 => if ts.all Tr.pure && decide (ts.length ≤ sizeLine) then .ok (.lst ts) s1 else .no)
  | .shd es, md, s => fin md ((evEs es s).bind fun ts s1 => if ts.all Tr.pure && decide (ts.length ≤ sizeLine) then .ok (.ob s1.mem.length) ⟨s1.env, s1.mem ++ [.lst ts]⟩ else .no)
  | .bin o a b, md, s => fin md ((evX a false s).bind fun x s1 => (evX b false s1).bind fun y s2 => Rs.of (opB o (s2.deref x) (s2.deref y)) s2)
  | .neg a, md, s => fin md ((evX a false s).bind fun x s1 => match x with
    | .int i => .ok (.int (-i)) s1
    | _ => .no)
  | .cmp o a b, md, s => fin md ((evX a false s).bind fun x s1 => (evX b false s1).bind fun y s2 => Rs.of ((opC2 o (s2.deref x) (s2.deref y)).map Tr.bl) s2)
  | .chain o p a b c, md, s => fin md ((evX a false s).bind fun x s1 => (evX b false s1).bind fun y s2 => match opC2 o (s2.deref x) (s2.deref y) with
    | some true => (evX c false s2).bind fun z s3 => Rs.of ((opC2 p (s3.deref y) (s3.deref z)).map Tr.bl) s3
    | some false => .ok (.bl false) s2
    | none => .no)
  | .and_ a b, md, s => (evX a md s).bind fun x s1 => match x with
    | .bl true => evX b md s1
    | .bl false => .ok (.bl false) s1
    | _ => .no
  | .or_ a b, md, s => (evX a md s).bind fun x s1 => match x with
    | .bl false => evX b md s1
    | .bl true => .ok (.bl true) s1
    | _ => .no
  | .not_ a, md, s => (match md with
      | true => evX a true s
      | false => fin true (evX a false s)).bind fun x s1 => match x with
    | .bl b => .ok (.bl !b) s1
    | _ => .no
  | .ite c a b, md, s => (evX c true s).bind fun x s1 => match x with
    | .bl true => evX a md s1
    | .bl false => evX b md s1
    | _ => .no
  | .idx a b, md, s => fin md ((evX a false s).bind fun x s1 => (evX b false s1).bind fun y s2 => match s2.deref x with
    | .ob n => match s2.mem[n]? with
      | some (.lst l) => Rs.of (idxT (.lst l) y) s2
      | _ => .no
    | t => Rs.of (idxT t (s2.deref y)) s2)
  | .sl a lo hi, md, s => fin md ((evX a false s).bind fun x s1 => (if isNul lo then .ok none s1 else asInt (evX lo false s1)).bind fun l s2 =>
      (if isNul hi then .ok none s2 else asInt (evX hi false s2)).bind fun h s3 => Rs.of (slT (s3.deref x) l h) s3)
  | .rev a, md, s => fin md ((evX a false s).bind fun x s1 => match s1.deref x with
    | .lst l => .ok (.lst l.reverse) s1
    | .tup l => .ok (.tup l.reverse) s1
    | _ => .no)
  | .stp a lo st, md, s => fin md ((evX a false s).bind fun x s1 => (if isNul lo then .ok none s1 else asInt (evX lo false s1)).bind fun l s2 =>
      (evX st false s2).bind fun y s3 => match s3.deref x, y with
        | .tup ls, .int 2 => .ok (.tup (halfT (ls.drop (HT.sIx ls.length 0 l)))) s3
        | _, _ => .no)
  | .bad, _, _ => .no
  | .disp k bs es, md, s => fin md ((evSt es bs s).bind fun ts s1 => if ts.all Tr.pure && decide (ts.length ≤ sizeLine) then (match k with
      | 0 => .ok (.tup ts) s1
      | 1 => .ok (.lst ts) s1
      | _ => .ok (.ob s1.mem.length) ⟨s1.env, s1.mem ++ [.lst ts]⟩) else .no)
  | .callK f es ks, md, s => fin md ((evEs es s).bind fun ts s1 => (evEs ks s1).bind fun us s2 => if (ts ++ us).all Tr.pure then match cf f (ts ++ us) s2.mem with
      | some (t, m) => .ok t ⟨s2.env, m⟩
      | none => .no
    else .no)
  | .callP f es ks ps, md, s => fin md ((evEs es s).bind fun ts s1 => (evEs ks s1).bind fun us s2 => if (ts ++ us).all Tr.pure then match cf f (ts ++ pick ps us) s2.mem with
      | some (t, m) => .ok t ⟨s2.env, m⟩
      | none => .no
    else .no)
  | .call f es, md, s => fin md ((evEs es s).bind fun ts s1 => if ts.all Tr.pure then match cf f ts s1.mem with
      | some (t, m) => .ok t ⟨s1.env, m⟩
      | none => .no
    else .no)
  | .bi b es, md, s => fin md ((evEs es s).bind fun ts s1 => if (ts.map s1.deref).all Tr.pure then Rs.of (biT b (ts.map s1.deref)) s1 else .no)
  | .pop i, md, s => fin md (match s.env[i]? with
    | some (.own (.lst l)) => match l.getLast? with
      | some t => .ok t ⟨s.env.set i (.own (.lst l.dropLast)), s.mem⟩
      | none => .no
    | _ => .no)
  | .orV a b, md, s => if md then .no else ((evX a false s).bind fun x s1 => match truth (s1.deref x) with
    | some true => .ok x s1
    | some false => evX b false s1
    | none => .no)
  | .fld a f, md, s => fin md ((evX a false s).bind fun x s1 => match s1.deref x with
    | .ins _ ns l => Rs.of (getK f ns l) s1
    | .ob n => match s1.mem[n]? with
      | some (.ins _ ns l) => Rs.of (getK f ns l) s1
      | _ => .no
    | _ => .no)
  | .isC c a, md, s => fin md ((evX a false s).bind fun x s1 => Rs.of (isCT c (s1.deref x)) s1)
  | .make f es, md, s => fin md ((evEs es s).bind fun ts s1 => if ts.all Tr.pure then match cf f ts s1.mem with
      | some (t, m) => .ok t ⟨s1.env, m⟩
      | none => .no
    else .no)
  | .dsp es, md, s => fin md ((evEs es s).bind fun ts s1 => if ts.all Tr.pure then match dspT ts with
      | some (ks, vs) => if ks.Nodup ∧ ks.length ≤ 15 then .ok (.dk ks vs) s1 else .no
      | none => .no
    else .no)
  | .dspN es, md, s => fin md ((evEs es s).bind fun ts s1 => if ts.all Tr.pure then match dspN ts with
      | some (ks, vs) => if ks.Nodup ∧ ks.length ≤ 15 ∧ ks ≠ [] then .ok (.dt ks vs) s1 else .no
      | none => .no
    else .no)
  | .isE a, md, s => fin md ((evX a false s).bind fun x s1 => match s1.deref x with
    | .dk ks _ => .ok (.bl ks.isEmpty) s1
    | .dt ks _ => .ok (.bl ks.isEmpty) s1
    | _ => .no)
  | .meth m a es, md, s => fin md ((evX a false s).bind fun x s1 => if recvOk m (s1.deref x) then (evEs es s1).bind fun ts s2 => if (s2.deref x).pure && (ts.map s2.deref).all Tr.pure then Rs.of (mtT m (s2.deref x) (ts.map s2.deref)) s2 else .no
    else .no)
  | .popAt i e, md, s => fin md (match s.env[i]? with
    | some (.own (.lst _)) => (evX e false s).bind fun t s1 => match s1.env[i]?, t with
      | some (.own (.lst l)), .int k => match ixN l.length k with
        | some j => if l.length ≤ sizeLine then Rs.of l[j]? ⟨s1.env.set i (.own (.lst (l.eraseIdx j))), s1.mem⟩ else .no
        | none => .no
      | _, _ => .no
    | _ => .no)
  | .cmpO o a b, md, s => fin md ((evX a false s).bind fun x s1 => (evX b false s1).bind fun y s2 => match x with
    | .ob n => match s2.mem[n]? with
      | some (.lst l) => Rs.of ((opC2 o (.lst l) (s2.deref y)).map Tr.bl) s2
      | _ => .no
    | _ => .no)
  | .biO b a, md, s => fin md ((evX a false s).bind fun x s1 => match x with
    | .ob n => match s1.mem[n]? with
      | some (.lst l) => Rs.of (biT b [.lst l]) s1
      | _ => .no
    | _ => .no)
  | .prop c _ f a, md, s => fin md ((evX a false s).bind fun x s1 => match x with
    | .ins c' ns l => if c' = c then match cf f [.ins c' ns l] s1.mem with
        | some (t, m) => .ok t ⟨s1.env, m⟩
        | none => .no
      else .no
    | _ => .no)
  | .eqV c f a b, md, s => fin md ((evX a false s).bind fun x s1 => (evX b false s1).bind fun y s2 => match x with
    | .ins c1 n1 l1 => match y with
      | .ins c2 n2 l2 => if c1 = c ∧ c2 = c then match cf f [.ins c1 n1 l1, .ins c2 n2 l2] s2.mem with
          | some (.bl r, m) => .ok (.bl r) ⟨s2.env, m⟩
          | _ => .no
        else .no
      | _ => .no
    | _ => .no)
  | .mcall c nm f a es, md, s => fin md ((evX a false s).bind fun x s1 => match x with
    | .ob n => match s1.mem[n]? with
      | some (.ins c' ns _) => if c' = c ∧ nm ∉ ns then (evEs es s1).bind fun ts s2 => if ts.all Tr.pure then match cf f (.ob n :: ts) s2.mem with
          | some (t, m) => .ok t ⟨s2.env, m⟩
          | none => .no
        else .no
        else .no
      | _ => .no
    | _ => .no)
  | .compO elt tg a cond own, md, s => fin md ((evX a false s).bind fun x s1 => match x with
    | .ob n => match s1.mem[n]? with
      | some (.lst l) => if quiet elt && (isNul cond || quiet cond) then match compGo (compF tg (wipeE (s1.env.map Slot.lock) own) (fun s => if isNul cond then .ok (.bl true) s else evX cond true s) (fun s => evX elt false s)) l s1.mem [] with
          | some (ys, m) => .ok (.lst ys) ⟨s1.env, m⟩
          | none => .no
        else .no
      | _ => .no
    | _ => .no)
  | .dcomp kx vx tg a own, md, s => fin md ((evX a false s).bind fun x s1 => match x with
    | .ob n => match s1.mem[n]? with
      | some (.lst l) => if quiet kx && quiet vx then match dcGo (dcF tg (wipeE (s1.env.map Slot.lock) own) s1.mem (fun s => evX kx false s) (fun s => evX vx false s)) l [] [] with
          | some r => .ok (.dt r.1 r.2) s1
          | none => .no
        else .no
      | _ => .no
    | _ => .no)
  | .comp k elt tg its cond own, md, s => fin md ((evEs its s).bind fun vs s1 => match (if (vs.map s1.deref).all Tr.pure then items k (vs.map s1.deref) else none) with
    | some xs => match compGo (compF tg (wipeE (s1.env.map Slot.lock) own) (fun s => if isNul cond then .ok (.bl true) s else evX cond true s) (fun s => evX elt false s)) xs s1.mem [] with
      | some (ys, m) => .ok (.lst ys) ⟨s1.env, m⟩
      | none => .no
    | none => .no)
noncomputable def evEs : List Ex → Sta → Rs (List Tr)
  | [], s => .ok [] s
  | e :: es, s => (evX e false s).bind fun t s1 => (evEs es s1).bind fun ts s2 => .ok (t :: ts) s2
noncomputable def evSt : List Ex → List Bool → Sta → Rs (List Tr)
  | [], _, s => .ok [] s
  | e :: es, bs, s => (evX e false s).bind fun t s1 => if bs.headD false then (match seqT (s1.deref t) with
      | some l => (evSt es bs.tail s1).bind fun ts s2 => .ok (l ++ ts) s2
      | none => .no)
    else (evSt es bs.tail s1).bind fun ts s2 => .ok (t :: ts) s2
end

/-! ### statements -/
inductive Fl where
  | next | brk | cont | ret (t : Tr)
/-- several names: 0 a value, 1 an own list, 2 an own dict, 3 an own dict with tuples for keys -/
noncomputable def ownOb : Nat → Tr → Option Ob
  | 1, .lst l => some (.lst l)
  | 2, .dk [] [] => some (.dk [] [])
  | 3, .dk [] [] => some (.dt [] [])
  | 4, .dk [] [] => some (.dn [] [])
  | _, _ => none
noncomputable def manyGo : List (Nat × Nat) → List Tr → List Slot → Option (List Slot)
  | [], [], env => some env
  | (i, o) :: is, t :: ts, env => if i < env.length then (if o = 0 then manyGo is ts (env.set i (.val t)) else match ownOb o t with
      | some b => manyGo is ts (env.set i (.own b))
      | none => none)
    else none
  | _, _, _ => none
noncomputable def isDisp : Ex → Bool
  | .lst _ => true
  | .bi .listOf _ => true
  | _ => false
noncomputable def isDsp0 : Ex → Bool
  | .dsp [] => true
  | _ => false
/-- elements that become own lists are displays -/
noncomputable def dispOk : List (Nat × Nat) → List Ex → Bool
  | [], [] => true
  | (_, o) :: is, e :: es => (o == 0 || (o == 1 && isDisp e) || ((o == 2 || o == 3 || o == 4) && isDsp0 e)) && dispOk is es
  | _, _ => false
noncomputable def forGo (tg : Tg) (f : Sta → Rs Fl) : List Tr → Sta → Rs Fl
  | [], s => .ok .next s
  | x :: xs, s => match asg tg x s.env with
    | some env => match f ⟨env, s.mem⟩ with
      | .ok .next s1 => forGo tg f xs s1
      | .ok .cont s1 => forGo tg f xs s1
      | .ok .brk s1 => .ok .next s1
      | .ok (.ret t) s1 => .ok (.ret t) s1
      | .no => .no
    | none => .no
noncomputable def whGo (c : Sta → Rs Tr) (f : Sta → Rs Fl) : Nat → Sta → Rs Fl
  | 0, _ => .no
  | n + 1, s => match c s with
    | .ok (.bl true) s1 => match f s1 with
      | .ok .next s2 => whGo c f n s2
      | .ok .cont s2 => whGo c f n s2
      | .ok .brk s2 => .ok .next s2
      | .ok (.ret t) s2 => .ok (.ret t) s2
      | .no => .no
    | .ok (.bl false) s1 => .ok .next s1
    | _ => .no
variable (wf : Nat)
mutual
noncomputable def exS : Sm → Sta → Rs Fl
  | .set i e, s => (evX gc cf e false s).bind fun t s1 => if t.pure && decide (i < s1.env.length) then .ok .next ⟨s1.env.set i (.val t), s1.mem⟩ else .no
  | .own i es, s => (evEs gc cf es s).bind fun ts s1 => if ts.all Tr.pure && decide (ts.length ≤ sizeLine) && decide (i < s1.env.length) then .ok .next ⟨s1.env.set i (.own (.lst ts)), s1.mem⟩ else .no
  | .ownOf i e, s => (evX gc cf e false s).bind fun t s1 => match seqT (s1.deref t) with
    | some l => if i < s1.env.length then .ok .next ⟨s1.env.set i (.own (.lst l)), s1.mem⟩ else .no
    | none => .no
  | .ownE i e, s => (evX gc cf e false s).bind fun t s1 => match t with
    | .lst l => if i < s1.env.length then .ok .next ⟨s1.env.set i (.own (.lst l)), s1.mem⟩ else .no
    | _ => .no
  | .ownD i t, s => if i < s.env.length then .ok .next ⟨s.env.set i (.own (if t then .dt [] [] else .dk [] [])), s.mem⟩ else .no
  | .dput i k v, s => (evX gc cf v false s).bind fun t s1 => match s1.env[i]? with
    | some (.own _) => (evX gc cf k false s1).bind fun y s2 => match s2.env[i]? with
      | some (.own (.dk ks vs)) => match keyT y with
        | some k => if t.pure && decide (ks.length < sizeLine) then .ok .next ⟨s2.env.set i (.own (.dk (putV ks vs k t).1 (putV ks vs k t).2)), s2.mem⟩ else .no
        | none => .no
      | some (.own (.dt ks vs)) => match y with
        | .tup l => match keysT l with
          | some k => if t.pure && decide (ks.length < sizeLine) then .ok .next ⟨s2.env.set i (.own (.dt (putV ks vs k t).1 (putV ks vs k t).2)), s2.mem⟩ else .no
          | none => .no
        | _ => .no
      | some (.own (.dn ks vs)) => match nkey y with
        | some k => if t.pure && decide (ks.length < sizeLine) then .ok .next ⟨s2.env.set i (.own (.dn (putV ks vs k t).1 (putV ks vs k t).2)), s2.mem⟩ else .no
        | none => .no
      | _ => .no
    | _ => .no
  | .fset o f e, s => (evX gc cf e false s).bind fun t s1 => (evX gc cf o false s1).bind fun x s2 => match x with
    | .ob n => match s2.mem[n]? with
      | some (.ins c ns l) => if t.pure && decide (ns.length < 1000) then .ok .next ⟨s2.env, s2.mem.set n (.ins c (setF ns l f t).1 (setF ns l f t).2)⟩ else .no
      | _ => .no
    | _ => .no
  | .appO a e, s => (evX gc cf a false s).bind fun x s1 => match x with
    | .ob n => match s1.mem[n]? with
      | some (.lst _) => (evX gc cf e false s1).bind fun t s2 => match s2.mem[n]? with
        | some (.lst l) => if t.pure && decide (l.length < sizeLine) then .ok .next ⟨s2.env, s2.mem.set n (.lst (l ++ [t]))⟩ else .no
        | _ => .no
      | _ => .no
    | _ => .no
  | .setAt i k v, s => (evX gc cf v false s).bind fun t s1 => match s1.env[i]? with
    | some (.own _) => (evX gc cf k false s1).bind fun y s2 => match s2.env[i]?, y with
      | some (.own (.lst l)), .int z => match ixN l.length z with
        | some j => if t.pure then .ok .next ⟨s2.env.set i (.own (.lst (l.set j t))), s2.mem⟩ else .no
        | none => .no
      | _, _ => .no
    | _ => .no
  | .many is es, s => (evEs gc cf es s).bind fun ts s1 => if ts.all Tr.pure then match manyGo is ts s1.env with
      | some env => .ok .next ⟨env, s1.mem⟩
      | none => .no
    else .no
  | .tgt tg e, s => (evX gc cf e false s).bind fun t s1 => match asg tg t s1.env with
    | some env => .ok .next ⟨env, s1.mem⟩
    | none => .no
  | .aug i o e, s => match s.env[i]? with
    | some (.val (.int x)) => (evX gc cf e false s).bind fun y s1 => match o, y with
      | .add, .int y => .ok .next ⟨s1.env.set i (.val (.int (x + y))), s1.mem⟩
      | .sub, .int y => .ok .next ⟨s1.env.set i (.val (.int (x - y))), s1.mem⟩
      | _, _ => .no
    | _ => .no
  | .put o k v, s => (evX gc cf v false s).bind fun t s1 => (evX gc cf o false s1).bind fun x s2 => (evX gc cf k false s2).bind fun y s3 => match x, y with
    | .ob n, .int i => match s3.mem[n]? with
      | some (.lst l) => match ixN l.length i with
        | some j => if t.pure then .ok .next ⟨s3.env, s3.mem.set n (.lst (l.set j t))⟩ else .no
        | none => .no
      | _ => .no
    | _, _ => .no
  | .app i e, s => match s.env[i]? with
    | some (.own (.lst _)) => (evX gc cf e false s).bind fun t s1 => match s1.env[i]? with
      | some (.own (.lst l)) => if t.pure && decide (l.length < sizeLine) then .ok .next ⟨s1.env.set i (.own (.lst (l ++ [t]))), s1.mem⟩ else .no
      | _ => .no
    | _ => .no
  | .ext i e, s => match s.env[i]? with
    | some (.own (.lst _)) => (evX gc cf e false s).bind fun t s1 => match s1.env[i]?, t with
      | some (.own (.lst l)), .lst m => if l.length + m.length ≤ sizeLine then .ok .next ⟨s1.env.set i (.own (.lst (l ++ m))), s1.mem⟩ else .no
      | some (.own (.lst l)), .tup m => if l.length + m.length ≤ sizeLine then .ok .next ⟨s1.env.set i (.own (.lst (l ++ m))), s1.mem⟩ else .no
      | _, _ => .no
    | _ => .no
  | .ex e, s => (evX gc cf e false s).bind fun _ s1 => .ok .next s1
  | .ret e, s => (evX gc cf e false s).bind fun t s1 => if t.pure then .ok (.ret t) s1 else .no
  | .retN, s => .ok (.ret .non) s
  | .ite c a b, s => (evX gc cf c true s).bind fun x s1 => match x with
    | .bl true => exSs a s1
    | .bl false => exSs b s1
    | _ => .no
  | .forr k tg its b, s => (evEs gc cf its s).bind fun vs s1 => if vs.all Tr.pure then match items k vs with
      | some xs => forGo tg (exSs b) xs s1
      | none => .no
    else .no
  | .whl c b, s => whGo (evX gc cf c true) (exSs b) wf s
  | .brk, s => .ok .brk s
  | .cont, s => .ok .cont s
  | .pass, s => .ok .next s
  | .bad, _ => .no
noncomputable def exSs : List Sm → Sta → Rs Fl
  | [], s => .ok .next s
  | x :: xs, s => (exS x s).bind fun f s1 => match f with
    | .next => exSs xs s1
    | .brk => .ok .brk s1
    | .cont => .ok .cont s1
    | .ret t => .ok (.ret t) s1
end
end
/-- a def: parameters, names, body; the __init__ of a class, by the class's name -/
structure Fn where
  par : Nat
  loc : Nat
  body : List Sm
  cls : Option Str := none
  keep : Bool := false
noncomputable def done : Rs Fl → Option (Tr × List Ob)
  | .ok .next s => some (.non, s.mem)
  | .ok (.ret t) s => some (t, s.mem)
  | _ => none
noncomputable def doneC (n : Nat) : Rs Fl → Option (Tr × List Ob)
  | .ok .next s => match s.mem[n]? with
    | some (.ins c ns l) => some (.ins c ns l, s.mem.set n .gone)
    | _ => none
  | _ => none
/-- an object that stays in memory -/
noncomputable def doneK (n : Nat) : Rs Fl → Option (Tr × List Ob)
  | .ok .next s => match s.mem[n]? with
    | some (.ins _ _ _) => some (.ob n, s.mem)
    | _ => none
  | _ => none
noncomputable def callF (gc : Nat → Option Tr) (wf : Nat) (fs : Nat → Option Fn) : Nat → CF
  | 0 => fun _ _ _ => none
  | d + 1 => fun f ts m => match fs f with
    | some fn => match fn.cls with
      | none => if ts.length = fn.par then done (exSs gc (callF gc wf fs d) wf fn.body ⟨ts.map Slot.val ++ List.replicate (fn.loc - ts.length) Slot.none, m⟩) else none
      | some c => match d with
        | 0 => none
        | e + 1 => if ts.length + 1 = fn.par then (if fn.keep then doneK m.length else doneC m.length) (exSs gc (callF gc wf fs e) wf fn.body ⟨(Tr.ob m.length :: ts).map Slot.val ++ List.replicate (fn.loc - (ts.length + 1)) Slot.none, m ++ [.ins c [] []]⟩) else none
    | none => none
end Ev
/-! The relation between the evaluator's states and the abstract heap. -/
namespace Ev
open PySem PySem.Spec L2

/-- what stands all the time: the program, the world, the written part, the names, our classes -/
structure Mx where
  P : Program
  w : World
  K : PySem.W.Frag
  mg : Str → Option Value
  cl : List Str
instance : Coe Mx PySem.W.Frag := ⟨Mx.K⟩
/-- the dict at a whose keys are tuples of ints and texts, each at its address -/
noncomputable def dtO (P : Program) (w : World) (a : Addr) (kvs : List (List Key × Addr × V)) : HO := .ext fun h => kvs.length ≤ sizeLine ∧ (a == sysModules) = false ∧ ∃ xs : List (List Key × Addr × Value),
  Paired (fun (p : List Key × Addr × V) (q : List Key × Addr × Value) => p.1 = q.1 ∧ p.2.1 = q.2.1 ∧ RelV p.2.2 q.2.2) kvs xs ∧
  ∃ o es ep, h.get? a = some o ∧ o.ExactDict ∧ o.data = .dict es ep ∧ es.toList = xs.map (entryOfKey (tupleKind (mixKind P w))) ∧ (xs.map (·.1)).Nodup

/-- the dict at a whose keys are tuples of any depth, each at its address -/
noncomputable def dnO (P : Program) (w : World) (a : Addr) (kvs : List (NestedKey × Addr × V)) : HO := .ext fun h => kvs.length ≤ sizeLine ∧ (a == sysModules) = false ∧ ∃ xs : List (NestedKey × Addr × Value),
  Paired (fun (p : NestedKey × Addr × V) (q : NestedKey × Addr × Value) => p.1 = q.1 ∧ p.2.1 = q.2.1 ∧ RelV p.2.2 q.2.2) kvs xs ∧
  ∃ o es ep, h.get? a = some o ∧ o.ExactDict ∧ o.data = .dict es ep ∧ es.toList = xs.map (entryOfKey (nestedKind P w)) ∧ (xs.map (·.1)).Nodup
mutual
/-- the value is such a key -/
noncomputable def KN (K : PySem.W.Frag) (H : Hp) : NestedKey → V → Prop
  | .none, v => v = .non
  | .num i, v => v = .int i
  | .text x, v => v = .str x
  | .tup ks, v => ∃ a xs, v = .ref a ∧ SqT K H a xs ∧ KNs K H ks xs
noncomputable def KNs (K : PySem.W.Frag) (H : Hp) : List NestedKey → List V → Prop
  | [], vs => vs = []
  | k :: ks, vs => ∃ v r, vs = v :: r ∧ KN K H k v ∧ KNs K H ks r
end
noncomputable def FLe (F F' : Hp) : Prop := ∀ a o, F a = some o → F' a = some o
theorem FLe.refl (F : Hp) : FLe F F := fun _ _ h => h
theorem FLe.trans {F F1 F2 : Hp} (a : FLe F F1) (b : FLe F1 F2) : FLe F F2 := fun c o h => b c o (a c o h)
theorem FLe.tup {K : PySem.W.Frag} {F F' : Hp} {a : Addr} {xs : List V} (h : FLe F F') (q : SqT K F a xs) : SqT K F' a xs := by
  rcases q with (q | ⟨o, q⟩) | q
  · exact .inl (.inl (h _ _ q))
  · exact .inl (.inr ⟨o, h _ _ q⟩)
  · exact .inr q
theorem FLe.lst {K : PySem.W.Frag} {F F' : Hp} {a : Addr} {xs : List V} (h : FLe F F') (q : SqL K F a xs) : SqL K F' a xs := by
  rcases q with (q | ⟨o, q⟩) | q
  · exact .inl (.inl (h _ _ q))
  · exact .inl (.inr ⟨o, h _ _ q⟩)
  · exact .inr q
theorem FLe.new {F H : Hp} {p : Addr} {o : HO} (h : FLe F H) (n : H p = none) : FLe F (upd H p o) := fun a u e => by
  rw [upd_ne (ne_of_none (h a u e) n)]
  exact h a u e
theorem FLe.upd1 {F : Hp} {p : Addr} {o : HO} (n : F p = none) : FLe F (upd F p o) := fun a u e => by
  rw [upd_ne (ne_of_none e n)]
  exact e
theorem FLe.both {F H : Hp} {p : Addr} {o : HO} (h : FLe F H) : FLe (upd F p o) (upd H p o) := fun a u e => by
  by_cases z : a = p
  · subst z
    rw [upd_same] at e ⊢
    exact e
  · rw [upd_ne z] at e ⊢
    exact h a u e
theorem FLe.none {F H : Hp} {p : Addr} (h : FLe F H) (n : H p = none) : F p = none := by
  cases e : F p with
  | none => rfl
  | some o => rw [h p o e] at n; cases n

mutual
theorem KN.mono {K : PySem.W.Frag} {F F' : Hp} (h : FLe F F') : ∀ (k : NestedKey) (v : V), KN K F k v → KN K F' k v
  | .none, _, e => e
  | .num _, _, e => e
  | .text _, _, e => e
  | .tup ks, _, e => by
    unfold KN at e ⊢
    obtain ⟨a, xs, e1, q, r⟩ := e
    exact ⟨a, xs, e1, h.tup q, KNs.mono h ks xs r⟩
theorem KNs.mono {K : PySem.W.Frag} {F F' : Hp} (h : FLe F F') : ∀ (ks : List NestedKey) (vs : List V), KNs K F ks vs → KNs K F' ks vs
  | [], _, e => e
  | k :: ks, _, e => by
    unfold KNs at e ⊢
    obtain ⟨v, r, e1, q, z⟩ := e
    exact ⟨v, r, e1, KN.mono h k v q, KNs.mono h ks r z⟩
end
mutual
inductive Rp (K : Mx) (F : Hp) (θ : List Addr) : Tr → V → Prop
  | non : Rp K F θ .non .non
  | bl (b : Bool) : Rp K F θ (.bl b) (.bl b)
  | int (i : Int) : Rp K F θ (.int i) (.int i)
  | str (x : Str) : Rp K F θ (.str x) (.str x)
  | tup {a : Addr} {xs : List V} {l : List Tr} : SqT K F a xs → Rps K F θ l xs → Rp K F θ (.tup l) (.ref a)
  | lst {a : Addr} {xs : List V} {l : List Tr} : F a = some (.lst xs) → Rps K F θ l xs → Rp K F θ (.lst l) (.ref a)
  | flst {a : Addr} {xs : List V} {l : List Tr} : SqL K F a xs → Rps K F θ l xs → Rp K F θ (.flst l) (.ref a)
  | dk {a : Addr} {kvs : List (Key × V)} {ks : List Key} {l : List Tr} : F a = some (.dK kvs) → kvs.map (·.1) = ks → Rps K F θ l (kvs.map (·.2)) → Rp K F θ (.dk ks l) (.ref a)
  | dt {a : Addr} {kvs : List (List Key × Addr × V)} {ks : List (List Key)} {l : List Tr} : F a = some (dtO K.P K.w a kvs) → kvs.map (·.1) = ks → Rps K F θ l (kvs.map (·.2.2)) → (∀ p ∈ kvs, SqT K F p.2.1 (p.1.map kV)) → Rp K F θ (.dt ks l) (.ref a)
  | dn {a : Addr} {kvs : List (NestedKey × Addr × V)} {ks : List NestedKey} {l : List Tr} : F a = some (dnO K.P K.w a kvs) → kvs.map (·.1) = ks → Rps K F θ l (kvs.map (·.2.2)) → (∀ p ∈ kvs, p.1.depth ≤ 8 ∧ KN K F p.1 (.ref p.2.1)) → Rp K F θ (.dn ks l) (.ref a)
  | ins {a C dx : Addr} {fs : List (Str × V)} {c : Str} {ns : List Str} {l : List Tr} : F a = some (.ins C dx fs) → c ∈ K.cl → K.mg c = some (.ref C) → fs.map (·.1) = ns → Rps K F θ l (fs.map (·.2)) → Rp K F θ (.ins c ns l) (.ref a)
  | ob {a : Addr} {n : Nat} : θ[n]? = some a → Rp K F θ (.ob n) (.ref a)
inductive Rps (K : Mx) (F : Hp) (θ : List Addr) : List Tr → List V → Prop
  | nil : Rps K F θ [] []
  | cons {t : Tr} {l : List Tr} {v : V} {vs : List V} : Rp K F θ t v → Rps K F θ l vs → Rps K F θ (t :: l) (v :: vs)
end
variable {K : Mx} {F F' : Hp} {θ θ' : List Addr}
theorem pre_get {α : Type} {l l' : List α} (h : l <+: l') {n : Nat} {a : α} (e : l[n]? = some a) : l'[n]? = some a := by
  obtain ⟨r, rfl⟩ := h
  have hn : n < l.length := (List.getElem?_eq_some_iff.mp e).1
  rw [List.getElem?_append_left hn]
  exact e
mutual
theorem Rp.mono (hF : FLe F F') (hθ : θ <+: θ') : ∀ {t : Tr} {v : V}, Rp K F θ t v → Rp K F' θ' t v
  | _, _, .non => .non
  | _, _, .bl b => .bl b
  | _, _, .int i => .int i
  | _, _, .str x => .str x
  | _, _, .tup h r => .tup (hF.tup h) (Rps.mono hF hθ r)
  | _, _, .lst h r => .lst (hF _ _ h) (Rps.mono hF hθ r)
  | _, _, .flst h r => .flst (hF.lst h) (Rps.mono hF hθ r)
  | _, _, .dk h e r => .dk (hF _ _ h) e (Rps.mono hF hθ r)
  | _, _, .dt h e r k => .dt (hF _ _ h) e (Rps.mono hF hθ r) fun p hp => hF.tup (k p hp)
  | _, _, .dn h e r k => .dn (hF _ _ h) e (Rps.mono hF hθ r) fun p hp => ⟨(k p hp).1, KN.mono hF _ _ (k p hp).2⟩
  | _, _, .ins h i g e r => .ins (hF _ _ h) i g e (Rps.mono hF hθ r)
  | _, _, .ob h => .ob (pre_get hθ h)
theorem Rps.mono (hF : FLe F F') (hθ : θ <+: θ') : ∀ {l : List Tr} {vs : List V}, Rps K F θ l vs → Rps K F' θ' l vs
  | _, _, .nil => .nil
  | _, _, .cons r s => .cons (Rp.mono hF hθ r) (Rps.mono hF hθ s)
end
theorem Rp.pure {t : Tr} {v : V} (r : Rp K F θ t v) : t.pure = true := by cases r <;> rfl
theorem Rps.length : ∀ {l : List Tr} {vs : List V}, Rps K F θ l vs → vs.length = l.length
  | _, _, .nil => rfl
  | _, _, .cons _ s => by rw [List.length_cons, List.length_cons, s.length]
theorem Rps.get : ∀ {l : List Tr} {vs : List V} {i : Nat} {t : Tr}, Rps K F θ l vs → l[i]? = some t → ∃ v, vs[i]? = some v ∧ Rp K F θ t v
  | _, _, _, _, .nil, e => by simp at e
  | _, _, 0, _, .cons r _, e => by simp at e; subst e; exact ⟨_, rfl, r⟩
  | _, _, i + 1, t, .cons _ s, e => by
    obtain ⟨v, h1, h2⟩ := Rps.get (i := i) (t := t) s (by simpa using e)
    exact ⟨v, by simpa using h1, h2⟩
theorem Rps.get' : ∀ {l : List Tr} {vs : List V} {i : Nat} {v : V}, Rps K F θ l vs → vs[i]? = some v → ∃ t, l[i]? = some t ∧ Rp K F θ t v
  | _, _, _, _, .nil, e => by simp at e
  | _, _, 0, _, .cons r _, e => by simp at e; subst e; exact ⟨_, rfl, r⟩
  | _, _, i + 1, t, .cons _ s, e => by
    obtain ⟨v, h1, h2⟩ := Rps.get' (i := i) (v := t) s (by simpa using e)
    exact ⟨v, by simpa using h1, h2⟩
theorem Rps.append : ∀ {l m : List Tr} {xs ys : List V}, Rps K F θ l xs → Rps K F θ m ys → Rps K F θ (l ++ m) (xs ++ ys)
  | _, _, _, _, .nil, s => s
  | _, _, _, _, .cons r t, s => .cons r (Rps.append t s)
theorem Rps.drop : ∀ {l : List Tr} {xs : List V} (n : Nat), Rps K F θ l xs → Rps K F θ (l.drop n) (xs.drop n)
  | _, _, 0, r => r
  | _, _, _ + 1, .nil => .nil
  | _, _, n + 1, .cons _ t => Rps.drop n t
theorem Rps.take : ∀ {l : List Tr} {xs : List V} (n : Nat), Rps K F θ l xs → Rps K F θ (l.take n) (xs.take n)
  | _, _, 0, _ => .nil
  | _, _, _ + 1, .nil => .nil
  | _, _, n + 1, .cons r t => .cons r (Rps.take n t)
theorem Rps.set {t : Tr} {v : V} (r : Rp K F θ t v) : ∀ {l : List Tr} {xs : List V} (i : Nat), Rps K F θ l xs → Rps K F θ (l.set i t) (xs.set i v)
  | _, _, _, .nil => .nil
  | _, _, 0, .cons _ s => .cons r s
  | _, _, i + 1, .cons q s => .cons q (Rps.set r i s)
theorem Rps.reverse : ∀ {l : List Tr} {xs : List V}, Rps K F θ l xs → Rps K F θ l.reverse xs.reverse
  | _, _, .nil => .nil
  | _, _, .cons r s => by
    rw [List.reverse_cons, List.reverse_cons]
    exact Rps.append (Rps.reverse s) (.cons r .nil)
theorem Rps.rep {l : List Tr} {xs : List V} (r : Rps K F θ l xs) : ∀ k : Nat, Rps K F θ (List.replicate k l).flatten (List.replicate k xs).flatten
  | 0 => .nil
  | k + 1 => by
    rw [List.replicate_succ, List.replicate_succ, List.flatten_cons, List.flatten_cons]
    exact Rps.append r (Rps.rep r k)
theorem Rps.dropLast {l : List Tr} {xs : List V} (r : Rps K F θ l xs) : Rps K F θ l.dropLast xs.dropLast := by
  rw [List.dropLast_eq_take, List.dropLast_eq_take, r.length]
  exact r.take _

theorem Rps.eraseIdx : ∀ {l : List Tr} {xs : List V} (n : Nat), Rps K F θ l xs → Rps K F θ (l.eraseIdx n) (xs.eraseIdx n)
  | _, _, _, .nil => .nil
  | _, _, 0, .cons _ t => t
  | _, _, n + 1, .cons r t => .cons r (Rps.eraseIdx n t)
/-- an object in memory -/
noncomputable def RpB (K : Mx) (F : Hp) (θ : List Addr) (a : Addr) : Ob → HO → Prop
  | .lst l, o => ∃ xs, o = .lst xs ∧ Rps K F θ l xs
  | .dk ks vs, o => ∃ kvs : List (Key × V), o = .dK kvs ∧ kvs.map (·.1) = ks ∧ Rps K F θ vs (kvs.map (·.2))
  | .dt ks vs, o => ∃ kvs : List (List Key × Addr × V), o = dtO K.P K.w a kvs ∧ kvs.map (·.1) = ks ∧ Rps K F θ vs (kvs.map (·.2.2)) ∧ ∀ p ∈ kvs, SqT K F p.2.1 (p.1.map kV)
  | .dn ks vs, o => ∃ kvs : List (NestedKey × Addr × V), o = dnO K.P K.w a kvs ∧ kvs.map (·.1) = ks ∧ Rps K F θ vs (kvs.map (·.2.2)) ∧ ∀ p ∈ kvs, p.1.depth ≤ 8 ∧ KN K F p.1 (.ref p.2.1)
  | .ins c ns l, o => ∃ C dx fs, o = .ins C dx fs ∧ c ∈ K.cl ∧ K.mg c = some (.ref C) ∧ fs.map (·.1) = ns ∧ Rps K F θ l (fs.map (·.2))
  | .gone, _ => False
theorem RpB.mono (hF : FLe F F') (hθ : θ <+: θ') {a : Addr} {b : Ob} {o : HO} (r : RpB K F θ a b o) : RpB K F' θ' a b o := by
  cases b with
  | lst l => obtain ⟨xs, e, q⟩ := r; exact ⟨xs, e, q.mono hF hθ⟩
  | dk ks vs => obtain ⟨xs, e, e2, q⟩ := r; exact ⟨xs, e, e2, q.mono hF hθ⟩
  | dt ks vs => obtain ⟨xs, e, e2, q, k⟩ := r; exact ⟨xs, e, e2, q.mono hF hθ, fun p hp => hF.tup (k p hp)⟩
  | dn ks vs => obtain ⟨xs, e, e2, q, k⟩ := r; exact ⟨xs, e, e2, q.mono hF hθ, fun p hp => ⟨(k p hp).1, KN.mono hF _ _ (k p hp).2⟩⟩
  | ins c ns l => obtain ⟨C, dx, fs, e, i, g, e2, q⟩ := r; exact ⟨C, dx, fs, e, i, g, e2, q.mono hF hθ⟩
  | gone => exact r
/-- it stays -/
theorem RpB.rp {a : Addr} {b : Ob} {o : HO} (r : RpB K F θ a b o) (h : F a = some o) : Rp K F θ b.tr (.ref a) := by
  cases b with
  | lst l => obtain ⟨xs, rfl, q⟩ := r; exact .lst h q
  | dk ks vs => obtain ⟨xs, rfl, e2, q⟩ := r; exact .dk h e2 q
  | dt ks vs => obtain ⟨xs, rfl, e2, q, k⟩ := r; exact .dt h e2 q k
  | dn ks vs => obtain ⟨xs, rfl, e2, q, k⟩ := r; exact .dn h e2 q k
  | ins c ns l => obtain ⟨C, dx, fs, rfl, i, g, e2, q⟩ := r; exact .ins h i g e2 q
  | gone => exact r.elim
theorem RpB.new {a : Addr} {b : Ob} {o : HO} (r : RpB K F θ a b o) {p : Addr} {u : HO} (n : F p = none) : RpB K (upd F p u) θ a b o := r.mono (FLe.upd1 n) (List.prefix_refl _)
/-- a slot -/
noncomputable def RpS (K : Mx) (F G : Hp) (θ : List Addr) (H : Hp) : Slot → Option (Option V) → Prop
  | .none, _ => True
  | .val t, v => ∃ x, v = some (some x) ∧ Rp K F θ t x
  | .own b, v => ∃ a o, v = some (some (.ref a)) ∧ H a = some o ∧ F a = none ∧ G a = none ∧ a ∉ θ ∧ RpB K F θ a b o
noncomputable def RpO (K : Mx) (F : Hp) (θ : List Addr) (a : Addr) (b : Ob) (h : Option HO) : Prop := ∃ o, h = some o ∧ RpB K F θ a b o
/-- what is shared: F the things that stay, G the things that others hold, θ the shared objects -/
structure RelM (K : Mx) (F G : Hp) (θ : List Addr) (m : List Ob) (H : Hp) : Prop where
  fle : FLe F H
  gle : FLe G H
  fg : ∀ a o, G a = some o → F a = none
  len : m.length = θ.length
  nd : θ.Nodup
  gt : ∀ a o, G a = some o → a ∉ θ
  al : ∀ a ∈ θ, ∃ o, H a = some o
  ob : ∀ (n : Nat) o, m[n]? = some o → o ≠ .gone → ∃ a, θ[n]? = some a ∧ F a = none ∧ G a = none ∧ RpO K F θ a o (H a)
structure Rel (K : Mx) (F G : Hp) (θ : List Addr) (s : Sta) (σ : St) (H : Hp) : Prop where
  m : RelM K F G θ s.mem H
  len : s.env.length = σ.length
  slot : ∀ (i : Nat) x, s.env[i]? = some x → RpS K F G θ H x σ[i]?
  dis : ∀ (i j : Nat) l l' a, s.env[i]? = some (.own l) → s.env[j]? = some (.own l') → σ[i]? = some (some (.ref a)) → σ[j]? = some (some (.ref a)) → i = j
/-- an operand -/
noncomputable def RpV (K : Mx) (F : Hp) (θ : List Addr) (σ : St) : Tr → V → Prop
  | .bor i, v => σ[i]? = some (some v)
  | t, v => Rp K F θ t v
theorem RpV.mono {σ : St} {t : Tr} {v : V} (hF : FLe F F') (hθ : θ <+: θ') (r : RpV K F θ σ t v) : RpV K F' θ' σ t v := by
  cases t <;> first | exact Rp.mono hF hθ r | exact r
theorem RpV.of {σ : St} {t : Tr} {v : V} (r : Rp K F θ t v) : RpV K F θ σ t v := by cases r <;> (first | exact .non | exact .bl _ | exact .int _ | exact .str _ | exact .tup ‹_› ‹_› | exact .lst ‹_› ‹_› | exact .flst ‹_› ‹_› | exact .dk ‹_› ‹_› ‹_› | exact .dt ‹_› ‹_› ‹_› ‹_› | exact .dn ‹_› ‹_› ‹_› ‹_› | exact .ins ‹_› ‹_› ‹_› ‹_› ‹_› | exact .ob ‹_›)
theorem RpV.rp {σ : St} {t : Tr} {v : V} (r : RpV K F θ σ t v) (p : t.pure = true) : Rp K F θ t v := by
  cases t <;> first | exact r | exact nomatch p
/-- an operand, read at the heap H -/
noncomputable def RpH (K : Mx) (F : Hp) (θ : List Addr) (H : Hp) : Tr → V → Prop
  | .lst l, v => ∃ a xs, v = .ref a ∧ H a = some (.lst xs) ∧ Rps K F θ l xs
  | .dk ks l, v => ∃ a kvs, v = .ref a ∧ H a = some (.dK kvs) ∧ kvs.map (·.1) = ks ∧ Rps K F θ l (kvs.map (·.2))
  | .dt ks l, v => ∃ a kvs, v = .ref a ∧ H a = some (dtO K.P K.w a kvs) ∧ kvs.map (·.1) = ks ∧ Rps K F θ l (kvs.map (·.2.2)) ∧ ∀ p ∈ kvs, SqT K F p.2.1 (p.1.map kV)
  | .dn ks l, v => ∃ a kvs, v = .ref a ∧ H a = some (dnO K.P K.w a kvs) ∧ kvs.map (·.1) = ks ∧ Rps K F θ l (kvs.map (·.2.2)) ∧ ∀ p ∈ kvs, p.1.depth ≤ 8 ∧ KN K F p.1 (.ref p.2.1)
  | .ins c ns l, v => ∃ a C dx fs, v = .ref a ∧ H a = some (.ins C dx fs) ∧ c ∈ K.cl ∧ K.mg c = some (.ref C) ∧ fs.map (·.1) = ns ∧ Rps K F θ l (fs.map (·.2))
  | .bor _, _ => False
  | t, v => Rp K F θ t v
variable {G H : Hp} {s : Sta} {σ : St}
theorem RpH.of {t : Tr} {v : V} (h : FLe F H) (r : Rp K F θ t v) : RpH K F θ H t v := by
  cases r with
  | lst e q => exact ⟨_, _, rfl, h _ _ e, q⟩
  | dk e e2 q => exact ⟨_, _, rfl, h _ _ e, e2, q⟩
  | dt e e2 q k => exact ⟨_, _, rfl, h _ _ e, e2, q, k⟩
  | dn e e2 q k => exact ⟨_, _, rfl, h _ _ e, e2, q, k⟩
  | ins e i g e2 q => exact ⟨_, _, _, _, rfl, h _ _ e, i, g, e2, q⟩
  | non => exact .non
  | bl b => exact .bl b
  | int i => exact .int i
  | str x => exact .str x
  | tup e q => exact .tup e q
  | flst e q => exact .flst e q
  | ob e => exact .ob e
theorem RpB.rpH {a : Addr} {b : Ob} {o : HO} (r : RpB K F θ a b o) (h : H a = some o) : RpH K F θ H b.tr (.ref a) := by
  cases b with
  | lst l => obtain ⟨xs, rfl, q⟩ := r; exact ⟨_, _, rfl, h, q⟩
  | dk ks vs => obtain ⟨xs, rfl, e2, q⟩ := r; exact ⟨_, _, rfl, h, e2, q⟩
  | dt ks vs => obtain ⟨xs, rfl, e2, q, k⟩ := r; exact ⟨_, _, rfl, h, e2, q, k⟩
  | dn ks vs => obtain ⟨xs, rfl, e2, q, k⟩ := r; exact ⟨_, _, rfl, h, e2, q, k⟩
  | ins c ns l => obtain ⟨C, dx, fs, rfl, i, g, e2, q⟩ := r; exact ⟨_, _, _, _, rfl, h, i, g, e2, q⟩
  | gone => exact r.elim
/-- reading an operand: nothing is known of a borrowed thing whose slot is gone -/
theorem deref_none {i : Nat} (e : s.env[i]? = none) : s.deref (.bor i) = .bor i := by simp only [Sta.deref, e]
theorem deref_slot {i : Nat} {x : Slot} (e : s.env[i]? = some x) : s.deref (.bor i) = (match x with
    | .own o => o.tr
    | .val t => t
    | _ => .bor i) := by simp only [Sta.deref, e]; cases x <;> rfl
theorem Rel.deref (R : Rel K F G θ s σ H) {t : Tr} {v : V} (r : RpV K F θ σ t v) : (∃ i, s.deref t = .bor i) ∨ RpH K F θ H (s.deref t) v := by
  cases t with
  | bor i =>
    have r' : σ[i]? = some (some v) := r
    cases e : s.env[i]? with
    | none => exact .inl ⟨i, deref_none e⟩
    | some x =>
      have q := R.slot i x e
      rw [deref_slot e]
      cases x with
      | none => exact .inl ⟨i, rfl⟩
      | val t =>
        obtain ⟨y, e1, q⟩ := q
        rw [r'] at e1
        cases e1
        exact .inr (RpH.of R.m.fle q)
      | own l =>
        obtain ⟨a, xs, e1, h, _, _, _, q⟩ := q
        rw [r'] at e1
        cases e1
        exact .inr (q.rpH h)
  | _ => exact .inr (RpH.of R.m.fle r)

/-! ### the state behind something new -/
/-- a new thing that stays -/
theorem RelM.newF {m : List Ob} {p : Addr} {o : HO} (R : RelM K F G θ m H) (n : H p = none) : RelM K (upd F p o) G θ m (upd H p o) := by
  have fp : F p = none := R.fle.none n
  have gp : G p = none := R.gle.none n
  refine ⟨R.fle.both, R.gle.new n, fun a u e => ?_, R.len, R.nd, R.gt, fun a ha => ?_, fun k u e hu => ?_⟩
  · rw [upd_ne (ne_of_none e gp)]
    exact R.fg a u e
  · obtain ⟨o, ho⟩ := R.al a ha
    exact ⟨o, by rw [upd_ne (ne_of_none ho n)]; exact ho⟩
  · obtain ⟨a, h1, h2, h3, h4⟩ := R.ob k u e hu
    have ne : a ≠ p := by
      rintro rfl
      obtain ⟨xs, q, _⟩ := h4
      rw [n] at q
      cases q
    refine ⟨a, h1, by rw [upd_ne ne]; exact h2, h3, ?_⟩
    rw [upd_ne ne]
    obtain ⟨xs, q, r⟩ := h4
    exact ⟨xs, q, r.mono (FLe.upd1 fp) (List.prefix_refl _)⟩
theorem RpS.newF {p : Addr} {o : HO} {x : Slot} {v : Option (Option V)} (fp : F p = none) (n : H p = none) (r : RpS K F G θ H x v) : RpS K (upd F p o) G θ (upd H p o) x v := by
  cases x with
  | none => exact r
  | val t => obtain ⟨y, e, q⟩ := r; exact ⟨y, e, q.mono (FLe.upd1 fp) (List.prefix_refl _)⟩
  | own l =>
    obtain ⟨a, xs, e, h, f, g, t, q⟩ := r
    have ne : a ≠ p := ne_of_none h n
    exact ⟨a, xs, e, by rw [upd_ne ne]; exact h, by rw [upd_ne ne]; exact f, g, t, q.mono (FLe.upd1 fp) (List.prefix_refl _)⟩
theorem Rel.newF {p : Addr} {o : HO} (R : Rel K F G θ s σ H) (n : H p = none) : Rel K (upd F p o) G θ s σ (upd H p o) :=
  ⟨R.m.newF n, R.len, fun i x e => (R.slot i x e).newF (R.m.fle.none n) n, R.dis⟩
/-- a new object of nobody's -/
theorem Rel.junk {p : Addr} {o : HO} (R : Rel K F G θ s σ H) (n : H p = none) : Rel K F G θ s σ (upd H p o) := by
  refine ⟨⟨R.m.fle.new n, R.m.gle.new n, R.m.fg, R.m.len, R.m.nd, R.m.gt, fun a ha => ?_, fun k u e hu => ?_⟩, R.len, fun i x e => ?_, R.dis⟩
  · obtain ⟨o, ho⟩ := R.m.al a ha
    exact ⟨o, by rw [upd_ne (ne_of_none ho n)]; exact ho⟩
  · obtain ⟨a, h1, h2, h3, h4⟩ := R.m.ob k u e hu
    refine ⟨a, h1, h2, h3, ?_⟩
    obtain ⟨xs, q, r⟩ := h4
    exact ⟨xs, by rw [upd_ne (ne_of_none q n)]; exact q, r⟩
  · have r := R.slot i x e
    cases x with
    | none => exact r
    | val t => exact r
    | own l => obtain ⟨a, xs, e, h, f⟩ := r; exact ⟨a, xs, e, by rw [upd_ne (ne_of_none h n)]; exact h, f⟩
theorem RelM.noTh {m : List Ob} {p : Addr} (R : RelM K F G θ m H) (n : H p = none) : p ∉ θ := fun hm => by
  obtain ⟨o, ho⟩ := R.al p hm
  rw [n] at ho
  cases ho
end Ev
/-! Dicts: both kinds, read and written; the least item of a tuple. -/
namespace Ev
open PySem PySem.Spec L2
open PyProof.Rows hiding St

noncomputable def valT {κ : Type} [DecidableEq κ] (kvs : List (κ × Addr × V)) (k : κ) : Option V := (kvs.find? fun x => decide (x.1 = k)).map (·.2.2)
noncomputable def putD {κ : Type} [DecidableEq κ] (kvs : List (κ × Addr × V)) (k : κ) (b : Addr) (v : V) : List (κ × Addr × V) :=
  if (kvs.any fun x => decide (x.1 = k)) = true then kvs.map (fun x => if x.1 = k then (x.1, x.2.1, v) else x) else kvs ++ [(k, b, v)]
noncomputable abbrev KD {κ : Type} : List (κ × Addr × V) → List (κ × Addr × Value) → Prop := Paired (fun (p : κ × Addr × V) (q : κ × Addr × Value) => p.1 = q.1 ∧ p.2.1 = q.2.1 ∧ RelV p.2.2 q.2.2)
theorem KD.val {κ : Type} [DecidableEq κ] {kvs : List (κ × Addr × V)} {xs : List (κ × Addr × Value)} (r : KD kvs xs) (k : κ) : RelO (valT kvs k) ((atKey xs k).map (·.2)) := by
  induction r with
  | nil => exact True.intro
  | @cons p q ps qs h t ih =>
    obtain ⟨h1, _, h2⟩ := h
    by_cases e : p.1 = k
    · have e' : q.1 = k := h1.symm.trans e
      have b : atKey (q :: qs) k = some q.2 := by simp [atKey, List.find?_cons, e']
      have c : valT (p :: ps) k = some p.2.2 := by simp [valT, List.find?_cons, e]
      rw [c, b]; exact h2
    · have e' : ¬ q.1 = k := fun z => e (h1.trans z)
      have b : atKey (q :: qs) k = atKey qs k := by simp [atKey, List.find?_cons, e']
      have c : valT (p :: ps) k = valT ps k := by simp [valT, List.find?_cons, e]
      rw [c, b]; exact ih
theorem valT_any {κ : Type} [DecidableEq κ] (k : κ) : ∀ kvs : List (κ × Addr × V), (kvs.any fun x => decide (x.1 = k)) = (valT kvs k).isSome
  | [] => rfl
  | p :: r => by
    rw [List.any_cons]
    by_cases e : p.1 = k
    · simp [valT, List.find?_cons, e]
    · have c : valT (p :: r) k = valT r k := by simp [valT, List.find?_cons, e]
      rw [c, decide_eq_false e, Bool.false_or]; exact valT_any k r
theorem KD.repl {κ : Type} [DecidableEq κ] {kvs : List (κ × Addr × V)} {xs : List (κ × Addr × Value)} (r : KD kvs xs) (k : κ) {y : V} {u : Value} (ry : RelV y u) :
    KD (kvs.map fun x => if x.1 = k then (x.1, x.2.1, y) else x) (xs.map (putAt k u)) := by
  induction r with
  | nil => exact .nil
  | @cons p q ps qs h t ih =>
    rw [List.map_cons, List.map_cons]
    refine .cons ?_ ih
    obtain ⟨h1, h2, h3⟩ := h
    unfold putAt
    by_cases e : p.1 = k
    · rw [if_pos e, if_pos (h1.symm.trans e)]; exact ⟨h1, h2, ry⟩
    · rw [if_neg e, if_neg (fun z => e (h1.trans z))]; exact ⟨h1, h2, h3⟩
theorem KD.put {κ : Type} [DecidableEq κ] {kvs : List (κ × Addr × V)} {xs : List (κ × Addr × Value)} (r : KD kvs xs) (k : κ) {b : Addr} {y : V} {u : Value} (ry : RelV y u) : KD (putD kvs k b y) (storedH xs k b u) := by
  have e : (kvs.any fun x => decide (x.1 = k)) = (atKey xs k).isSome := by
    rw [valT_any, (r.val k).isSome_eq, Option.isSome_map]
  unfold putD storedH
  rw [e]
  by_cases q : (atKey xs k).isSome = true
  · rw [if_pos q, if_pos q]; exact r.repl k ry
  · rw [if_neg q, if_neg q]; exact Paired.snoc r ⟨rfl, rfl, ry⟩
theorem length_putD {κ : Type} [DecidableEq κ] (kvs : List (κ × Addr × V)) (k : κ) (b : Addr) (v : V) : (putD kvs k b v).length ≤ kvs.length + 1 := by
  unfold putD
  split
  · rw [List.length_map]; omega
  · rw [List.length_append, List.length_cons, List.length_nil]; omega

section
variable {X : Cx} {pins : List (Addr × Obj)} {σ : St} {H : Hp} {s : Shared} {a : Addr} {y v : V} {u r : Value} {o : Option V} {A : Around} {E : Value → Shared → Prop}
theorem keyAt {b : Addr} {ks : List Key} (I : Inv X pins σ H s) (h : SqT X.K H b (ks.map kV)) : (tupleKind (mixKind X.prog X.w)).is s.heap ks b := by
  obtain ⟨its, r, p, hz⟩ := I.tuple h
  obtain ⟨o, h1, h2, n, h3⟩ := p
  exact ⟨o, its.toArray, n, h1, h2, h3, by simpa using items_are r⟩
theorem dtAt {kvs : List (List Key × Addr × V)} (I : Inv X pins σ H s) (e : H a = some (dtO X.prog X.w a kvs)) (hk : ∀ p ∈ kvs, SqT X.K H p.2.1 (p.1.map kV)) :
    kvs.length ≤ sizeLine ∧ (a == sysModules) = false ∧ ∃ xs, KD kvs xs ∧ s.heap.DictOfH (tupleKind (mixKind X.prog X.w)) a xs := by
  obtain ⟨⟨z, y, xs, rel, o, es, ep, h1, h2, h3, h4, h5⟩, _⟩ := (show ObjOk X.prog X.w H s.heap a (dtO X.prog X.w a kvs) from I.hok a _ e)
  refine ⟨z, y, xs, rel, o, es, ep, h1, h2, h3, h4, ?_, h5⟩
  have all : ∀ {l : List (List Key × Addr × V)} {m : List (List Key × Addr × Value)}, KD l m → (∀ p ∈ l, SqT X.K H p.2.1 (p.1.map kV)) → ∀ x ∈ m, (tupleKind (mixKind X.prog X.w)).is s.heap x.1 x.2.1 := by
    intro l m q
    induction q with
    | nil => intro _ x hx; exact nomatch hx
    | @cons p q ps qs hq t ih =>
      intro hl x hx
      rcases List.mem_cons.mp hx with e | hx
      · subst e
        rw [← hq.1, ← hq.2.1]
        exact keyAt I (hl p (by simp))
      · exact ih (fun p hp => hl p (by simp [hp])) x hx
  exact all rel hk
mutual
theorem knAt (I : Inv X pins σ H s) : ∀ (k : NestedKey) (v : V) (u : Value), KN X.K H k v → RelV v u → NestedIs s.heap k u
  | .none, v, u, h, r => by
    unfold KN at h
    subst h
    cases (show u = Value.none from r)
    exact .none
  | .num i, v, u, h, r => by
    unfold KN at h
    subst h
    obtain ⟨t, rfl⟩ := r
    exact .int i t
  | .text x, v, u, h, r => by
    unfold KN at h
    subst h
    obtain ⟨t, rfl⟩ := r
    exact .text x t
  | .tup ks, v, u, h, r => by
    unfold KN at h
    obtain ⟨a, xs, rfl, q, z⟩ := h
    cases (show u = Value.ref a from r)
    obtain ⟨its, rv, p, hz⟩ := I.tuple q
    obtain ⟨o, h1, h2, n, h3⟩ := p
    exact .tup h1 h2 h3 (by simpa using knsAt I ks xs its z rv)
theorem knsAt (I : Inv X pins σ H s) : ∀ (ks : List NestedKey) (vs : List V) (us : List Value), KNs X.K H ks vs → Vals vs us → NestedAll s.heap ks us
  | [], vs, us, h, r => by
    unfold KNs at h
    subst h
    cases r
    exact .nil
  | k :: ks, vs, us, h, r => by
    unfold KNs at h
    obtain ⟨v, l, rfl, q, z⟩ := h
    cases r with
    | cons r1 r2 => exact .cons (knAt I k v _ q r1) (knsAt I ks l _ z r2)
end
theorem keyAtN {b : Addr} {k : NestedKey} (I : Inv X pins σ H s) (h : k.depth ≤ 8 ∧ KN X.K H k (.ref b)) : (nestedKind X.prog X.w).is s.heap k b := ⟨knAt I k _ _ h.2 rfl, h.1⟩
theorem dnAt {kvs : List (NestedKey × Addr × V)} (I : Inv X pins σ H s) (e : H a = some (dnO X.prog X.w a kvs)) (hk : ∀ p ∈ kvs, p.1.depth ≤ 8 ∧ KN X.K H p.1 (.ref p.2.1)) :
    kvs.length ≤ sizeLine ∧ (a == sysModules) = false ∧ ∃ xs, KD kvs xs ∧ s.heap.DictOfH (nestedKind X.prog X.w) a xs := by
  obtain ⟨⟨z, y, xs, rel, o, es, ep, h1, h2, h3, h4, h5⟩, _⟩ := (show ObjOk X.prog X.w H s.heap a (dnO X.prog X.w a kvs) from I.hok a _ e)
  refine ⟨z, y, xs, rel, o, es, ep, h1, h2, h3, h4, ?_, h5⟩
  have all : ∀ {l : List (NestedKey × Addr × V)} {m : List (NestedKey × Addr × Value)}, KD l m → (∀ p ∈ l, p.1.depth ≤ 8 ∧ KN X.K H p.1 (.ref p.2.1)) → ∀ x ∈ m, (nestedKind X.prog X.w).is s.heap x.1 x.2.1 := by
    intro l m q
    induction q with
    | nil => intro _ x hx; exact nomatch hx
    | @cons p q ps qs hq t ih =>
      intro hl x hx
      rcases List.mem_cons.mp hx with e | hx
      · subst e
        rw [← hq.1, ← hq.2.1]
        exact keyAtN I (hl p (by simp))
      · exact ih (fun p hp => hl p (by simp [hp])) x hx
  exact all rel hk
theorem nroom {P : Program} {w : World} (hu : A.units + 20 < cLine) : (nestedKind P w).room A.in1 := by
  show A.units + 1 + 8 < cLine
  omega
/-- what the dict at a holds at the key y -/
noncomputable def DG (P : Program) (w : World) (K : PySem.W.Frag) (H : Hp) (a : Addr) (y : V) (r : Option V) : Prop :=
  (∃ kvs k, H a = some (.dK kvs) ∧ y = kV k ∧ r = valV kvs k) ∨ (∃ kvs k b, H a = some (dtO P w a kvs) ∧ (∀ p ∈ kvs, SqT K H p.2.1 (p.1.map kV)) ∧ y = .ref b ∧ SqT K H b (k.map kV) ∧ r = valT kvs k) ∨ ∃ kvs k b, H a = some (dnO P w a kvs) ∧ (∀ p ∈ kvs, p.1.depth ≤ 8 ∧ KN K H p.1 (.ref p.2.1)) ∧ y = .ref b ∧ (k.depth ≤ 8 ∧ KN K H k (.ref b)) ∧ r = valT kvs k
theorem g_getItem {Q : Value → Shared → Prop} (hu : A.units + 20 < cLine) (I : Inv X pins σ H s) (g : DG X.prog X.w X.K H a y (some v)) (ry : RelV y u) (h : ∀ w' s', Inv X pins σ H s' → RelV v w' → Q w' s') :
    wpAny (model X.prog X.w) A (getItem (.ref a) u) Q E s := by
  rcases g with ⟨kvs, k, e, ey, l⟩ | ⟨kvs, k, b, e, hk, ey, eb, l⟩ | ⟨kvs, k, b, e, hk, ey, eb, l⟩
  · exact d_getItem (by omega) I (.inl ⟨kvs, k, .inl e, ey, l⟩) ry h
  · subst ey
    cases (show u = Value.ref b from ry)
    obtain ⟨z, hd, xs, rel, dd⟩ := dtAt I e hk
    obtain ⟨w', hw, rw'⟩ := RelO.some_of (v := v) (o := (atKey xs k).map (·.2)) (by rw [l]; exact rel.val k)
    obtain ⟨p, hp, hp2⟩ := Option.map_eq_some_iff.mp hw
    refine wpAny_getItem_heap (tupleKind_room_in1 (by omega)) (keyAt I eb) dd hp ?_
    rw [hp2]
    exact h w' _ (I.tok _) rw'
  · subst ey
    cases (show u = Value.ref b from ry)
    obtain ⟨z, hd, xs, rel, dd⟩ := dnAt I e hk
    obtain ⟨w', hw, rw'⟩ := RelO.some_of (v := v) (o := (atKey xs k).map (·.2)) (by rw [l]; exact rel.val k)
    obtain ⟨p, hp, hp2⟩ := Option.map_eq_some_iff.mp hw
    refine wpAny_getItem_heap (nroom hu) (keyAtN I eb) dd hp ?_
    rw [hp2]
    exact h w' _ (I.tok _) rw'
theorem g_in {Q : Value → Shared → Prop} (hu : A.units + 20 < cLine) (I : Inv X pins σ H s) (g : DG X.prog X.w X.K H a y o) (ry : RelV y u) (h : ∀ s', Inv X pins σ H s' → Q (.bool o.isSome) s') :
    wpAny (model X.prog X.w) A (compareOp .In u (.ref a)) Q E s := by
  rcases g with ⟨kvs, k, e, ey, l⟩ | ⟨kvs, k, b, e, hk, ey, eb, l⟩ | ⟨kvs, k, b, e, hk, ey, eb, l⟩
  · exact d_in (by omega) I (.inl ⟨kvs, k, .inl e, ey, l⟩) ry h
  · subst ey
    cases (show u = Value.ref b from ry)
    obtain ⟨z, hd, xs, rel, dd⟩ := dtAt I e hk
    refine wpAny_in_heap (tupleKind_room_in1 (by omega)) (keyAt I eb) hd dd ?_
    have q := (rel.val k).isSome_eq
    rw [Option.isSome_map] at q
    rw [← q, ← l]
    exact h _ (I.tok _)
  · subst ey
    cases (show u = Value.ref b from ry)
    obtain ⟨z, hd, xs, rel, dd⟩ := dnAt I e hk
    refine wpAny_in_heap (nroom hu) (keyAtN I eb) hd dd ?_
    have q := (rel.val k).isSome_eq
    rw [Option.isSome_map] at q
    rw [← q, ← l]
    exact h _ (I.tok _)
theorem g_notIn {Q : Value → Shared → Prop} (hu : A.units + 20 < cLine) (I : Inv X pins σ H s) (g : DG X.prog X.w X.K H a y o) (ry : RelV y u) (h : ∀ s', Inv X pins σ H s' → Q (.bool (!o.isSome)) s') :
    wpAny (model X.prog X.w) A (compareOp .NotIn u (.ref a)) Q E s := by
  rcases g with ⟨kvs, k, e, ey, l⟩ | ⟨kvs, k, b, e, hk, ey, eb, l⟩ | ⟨kvs, k, b, e, hk, ey, eb, l⟩
  · exact d_notIn (by omega) I (.inl ⟨kvs, k, .inl e, ey, l⟩) ry h
  · subst ey
    cases (show u = Value.ref b from ry)
    obtain ⟨z, hd, xs, rel, dd⟩ := dtAt I e hk
    refine wpAny_notIn_heap (tupleKind_room_in1 (by omega)) (keyAt I eb) hd dd ?_
    have q := (rel.val k).isSome_eq
    rw [Option.isSome_map] at q
    rw [← q, ← l]
    exact h _ (I.tok _)
  · subst ey
    cases (show u = Value.ref b from ry)
    obtain ⟨z, hd, xs, rel, dd⟩ := dnAt I e hk
    refine wpAny_notIn_heap (nroom hu) (keyAtN I eb) hd dd ?_
    have q := (rel.val k).isSome_eq
    rw [Option.isSome_map] at q
    rw [← q, ← l]
    exact h _ (I.tok _)
theorem g_get1 {Q : Value → Shared → Prop} (hu : A.units + 20 < cLine) (I : Inv X pins σ H s) (g : DG X.prog X.w X.K H a y o) (ry : RelV y u) (h : ∀ w' s', Inv X pins σ H s' → RelV (o.getD .non) w' → Q w' s') :
    wpAny (model X.prog X.w) A (call (.builtin "dict.get") [.ref a, u]) Q E s := by
  rcases g with ⟨kvs, k, e, ey, l⟩ | ⟨kvs, k, b, e, hk, ey, eb, l⟩ | ⟨kvs, k, b, e, hk, ey, eb, l⟩
  · exact d_get1 (by omega) I (.inl ⟨kvs, k, .inl e, ey, l⟩) ry h
  · subst ey
    cases (show u = Value.ref b from ry)
    obtain ⟨z, hd, xs, rel, dd⟩ := dtAt I e hk
    refine call_meetsIn PySem.F.slot_dict_get dd.typeIs PySem.F.entry_dict_get (PySem.F.args_dict_get_2 _ _) (meetsH_dict_get (tupleKind (mixKind X.prog X.w)) a b hd) ⟨tupleKind_room_in1 (by omega), k, xs, keyAt I eb, dd, h _ _ (I.tok _) ?_⟩
    rw [l]
    exact (rel.val k).getD rfl
  · subst ey
    cases (show u = Value.ref b from ry)
    obtain ⟨z, hd, xs, rel, dd⟩ := dnAt I e hk
    refine call_meetsIn PySem.F.slot_dict_get dd.typeIs PySem.F.entry_dict_get (PySem.F.args_dict_get_2 _ _) (meetsH_dict_get (nestedKind X.prog X.w) a b hd) ⟨nroom hu, k, xs, keyAtN I eb, dd, h _ _ (I.tok _) ?_⟩
    rw [l]
    exact (rel.val k).getD rfl
theorem g_get2 {d : V} {Q : Value → Shared → Prop} (hu : A.units + 20 < cLine) (I : Inv X pins σ H s) (g : DG X.prog X.w X.K H a y o) (ry : RelV y u) (rd : RelV d r) (h : ∀ w' s', Inv X pins σ H s' → RelV (o.getD d) w' → Q w' s') :
    wpAny (model X.prog X.w) A (call (.builtin "dict.get") [.ref a, u, r]) Q E s := by
  rcases g with ⟨kvs, k, e, ey, l⟩ | ⟨kvs, k, b, e, hk, ey, eb, l⟩ | ⟨kvs, k, b, e, hk, ey, eb, l⟩
  · exact d_get2 (by omega) I (.inl ⟨kvs, k, .inl e, ey, l⟩) ry rd h
  · subst ey
    cases (show u = Value.ref b from ry)
    obtain ⟨z, hd, xs, rel, dd⟩ := dtAt I e hk
    refine call_meetsIn PySem.F.slot_dict_get dd.typeIs PySem.F.entry_dict_get (PySem.F.args_dict_get_3 _ _ _) (meetsH_dict_get_default (tupleKind (mixKind X.prog X.w)) a b hd r) ⟨tupleKind_room_in1 (by omega), k, xs, keyAt I eb, dd, h _ _ (I.tok _) ?_⟩
    rw [l]
    exact (rel.val k).getD rd
  · subst ey
    cases (show u = Value.ref b from ry)
    obtain ⟨z, hd, xs, rel, dd⟩ := dnAt I e hk
    refine call_meetsIn PySem.F.slot_dict_get dd.typeIs PySem.F.entry_dict_get (PySem.F.args_dict_get_3 _ _ _) (meetsH_dict_get_default (nestedKind X.prog X.w) a b hd r) ⟨nroom hu, k, xs, keyAtN I eb, dd, h _ _ (I.tok _) ?_⟩
    rw [l]
    exact (rel.val k).getD rd
/-- the heap behind a[y] = v -/
noncomputable def DP (P : Program) (w : World) (K : PySem.W.Frag) (H : Hp) (a : Addr) (y v : V) (H' : Hp) : Prop :=
  (∃ kvs k, H a = some (.dK kvs) ∧ y = kV k ∧ kvs.length < sizeLine ∧ H' = upd H a (.dK (putK kvs k v))) ∨
  (∃ kvs k b, H a = some (dtO P w a kvs) ∧ (∀ p ∈ kvs, SqT K H p.2.1 (p.1.map kV)) ∧ y = .ref b ∧ SqT K H b (k.map kV) ∧ kvs.length < sizeLine ∧ H' = upd H a (dtO P w a (putD kvs k b v))) ∨
  ∃ kvs k b, H a = some (dnO P w a kvs) ∧ (∀ p ∈ kvs, p.1.depth ≤ 8 ∧ KN K H p.1 (.ref p.2.1)) ∧ y = .ref b ∧ (k.depth ≤ 8 ∧ KN K H k (.ref b)) ∧ kvs.length < sizeLine ∧ H' = upd H a (dnO P w a (putD kvs k b v))
theorem dtO_ok {P : Program} {w : World} {H' : Hp} {h' : Heap} {kvs : List (List Key × Addr × V)} {xs : List (List Key × Addr × Value)} (z : kvs.length ≤ sizeLine) (hd : (a == sysModules) = false) (rel : KD kvs xs) (dd : h'.DictOfH (tupleKind (mixKind P w)) a xs) :
    ObjOk P w H' h' a (dtO P w a kvs) := by
  obtain ⟨o, es, ep, h1, h2, h3, h4, _, h5⟩ := dd
  refine ⟨⟨z, hd, xs, rel, o, es, ep, h1, h2, h3, h4, h5⟩, ⟨o, h1⟩, fun g1 g2 q k => ?_⟩
  obtain ⟨z, hd, xs, rel, o, es, ep, h1, h2, h3, h4, h5⟩ := q
  exact ⟨z, hd, xs, rel, o, es, ep, k _ h1, h2, h3, h4, h5⟩
theorem dnO_ok {P : Program} {w : World} {H' : Hp} {h' : Heap} {kvs : List (NestedKey × Addr × V)} {xs : List (NestedKey × Addr × Value)} (z : kvs.length ≤ sizeLine) (hd : (a == sysModules) = false) (rel : KD kvs xs) (dd : h'.DictOfH (nestedKind P w) a xs) :
    ObjOk P w H' h' a (dnO P w a kvs) := by
  obtain ⟨o, es, ep, h1, h2, h3, h4, _, h5⟩ := dd
  refine ⟨⟨z, hd, xs, rel, o, es, ep, h1, h2, h3, h4, h5⟩, ⟨o, h1⟩, fun g1 g2 q k => ?_⟩
  obtain ⟨z, hd, xs, rel, o, es, ep, h1, h2, h3, h4, h5⟩ := q
  exact ⟨z, hd, xs, rel, o, es, ep, k _ h1, h2, h3, h4, h5⟩
theorem g_setItem {H' : Hp} {Q : Unit → Shared → Prop} (hu : A.units + 20 < cLine) (I : Inv X pins σ H s) (g : DP X.prog X.w X.K H a y v H') (ry : RelV y u) (rv : RelV v r) (h : ∀ s', Inv X pins σ H' s' → Q () s') :
    wpAny (model X.prog X.w) A (setItem (.ref a) u r) Q E s := by
  rcases g with ⟨kvs, k, e, ey, l, eH⟩ | ⟨kvs, k, b, e, hk, ey, eb, l, eH⟩ | ⟨kvs, k, b, e, hk, ey, eb, l, eH⟩
  · exact d_setItem (by omega) I (.inl ⟨kvs, k, e, ey, l, eH⟩) ry rv h
  · subst ey eH
    cases (show u = Value.ref b from ry)
    obtain ⟨z, hd, xs, rel, dd⟩ := dtAt I e hk
    have hz : xs.length ≤ sizeLine := by rw [← Paired.length rel]; exact z
    have hl : (putD kvs k b v).length ≤ sizeLine := by have := length_putD kvs k b v; omega
    refine wpAny_setItem_heap (hsz := hz) (tupleKind_room_in1 (by omega)) (keyAt I eb) dd fun h' dd' hs => h _ ?_
    have he : ∃ q, h'.get? a = some q := let ⟨q, _, _, hq, _⟩ := dd'; ⟨q, hq⟩
    exact d_write I (by rw [e]; exact True.intro) hs he (dtO_ok hl hd (rel.put k rv) dd')
  · subst ey eH
    cases (show u = Value.ref b from ry)
    obtain ⟨z, hd, xs, rel, dd⟩ := dnAt I e hk
    have hz : xs.length ≤ sizeLine := by rw [← Paired.length rel]; exact z
    have hl : (putD kvs k b v).length ≤ sizeLine := by have := length_putD kvs k b v; omega
    refine wpAny_setItem_heap (hsz := hz) (nroom hu) (keyAtN I eb) dd fun h' dd' hs => h _ ?_
    have he : ∃ q, h'.get? a = some q := let ⟨q, _, _, hq, _⟩ := dd'; ⟨q, hq⟩
    exact d_write I (by rw [e]; exact True.intro) hs he (dnO_ok hl hd (rel.put k rv) dd')
theorem ix_dict (hu : X.A.units + 20 < cLine) : IxR X (fun x y H Q => ∃ a v, x = .ref a ∧ DG X.prog X.w X.K H a y (some v) ∧ Q v H) := by
  intro value slice pins s σ H x y v u Q I rx ry h hs
  obtain ⟨a, z, rfl, g, q⟩ := h
  obtain rfl : v = Value.ref a := rx
  have ht : s.TypeIs (.ref a) "dict" := by
    rcases g with ⟨kvs, k, e, ey, l⟩ | ⟨kvs, k, b, e, hk, ey, eb, l⟩ | ⟨kvs, k, b, e, hk, ey, eb, l⟩
    · obtain ⟨_, _, vs, _, dd⟩ := dk_of I.hok e
      exact dd.typeIs
    · obtain ⟨z, hd, xs, rel, dd⟩ := dtAt I e hk
      exact dd.typeIs
    · obtain ⟨z, hd, xs, rel, dd⟩ := dnAt I e hk
      exact dd.typeIs
  exact tail_any ht PySem.F.slot_dict_getitem.lookup (g_getItem hu I g ry fun w' s' I' r' => ⟨z, H, I', r', q⟩) hs
theorem op_inD (hu : X.A.units + 64 < cLine) : OpR X (compareOp .In) (fun y x H Q => ∃ a o, x = .ref a ∧ DG X.prog X.w X.K H a y o ∧ Q (.bl o.isSome) H) := by
  intro pins s σ H x y v u Q I rx ry h
  obtain ⟨a, o, rfl, g, q⟩ := h
  obtain rfl : u = Value.ref a := ry
  exact g_in (by omega) I g rx fun s' I' => ⟨.bl o.isSome, H, I', rfl, q⟩
theorem op_notInD (hu : X.A.units + 64 < cLine) : OpR X (compareOp .NotIn) (fun y x H Q => ∃ a o, x = .ref a ∧ DG X.prog X.w X.K H a y o ∧ Q (.bl (!o.isSome)) H) := by
  intro pins s σ H x y v u Q I rx ry h
  obtain ⟨a, o, rfl, g, q⟩ := h
  obtain rfl : u = Value.ref a := ry
  exact g_notIn (by omega) I g rx fun s' I' => ⟨.bl (!o.isSome), H, I', rfl, q⟩
theorem mt_get1 (hu : X.A.units + 64 < cLine) : MtR X "dict.get" (fun x ys H Q => ∃ a y o, x = .ref a ∧ ys = [y] ∧ DG X.prog X.w X.K H a y o ∧ Q (o.getD .non) H) := by
  intro pins s σ H x xs v us Q I rx rs h
  obtain ⟨a, y, o, rfl, rfl, g, q⟩ := h
  obtain rfl : v = Value.ref a := rx
  obtain ⟨u, rfl, ru⟩ := rs.one
  exact g_get1 (by omega) I g ru fun w' s' I' r' => ⟨_, H, I', r', q⟩
theorem mt_get2 (hu : X.A.units + 64 < cLine) : MtR X "dict.get" (fun x ys H Q => ∃ a y z o, x = .ref a ∧ ys = [y, z] ∧ DG X.prog X.w X.K H a y o ∧ Q (o.getD z) H) := by
  intro pins s σ H x xs v us Q I rx rs h
  obtain ⟨a, y, z, o, rfl, rfl, g, q⟩ := h
  obtain rfl : v = Value.ref a := rx
  obtain ⟨u, u2, rfl, ru, ru2⟩ := rs.two
  exact g_get2 (by omega) I g ru ru2 fun w' s' I' r' => ⟨_, H, I', r', q⟩
/-- a dict of either kind -/
noncomputable def IsDd (P : Program) (w : World) (K : PySem.W.Frag) (x : V) (H : Hp) : Prop := ∃ a, x = .ref a ∧ ((∃ kvs, H a = some (.dK kvs)) ∨ (∃ kvs, H a = some (dtO P w a kvs) ∧ ∀ p ∈ kvs, SqT K H p.2.1 (p.1.map kV)) ∨ ∃ kvs, H a = some (dnO P w a kvs) ∧ ∀ p ∈ kvs, p.1.depth ≤ 8 ∧ KN K H p.1 (.ref p.2.1))
theorem isDd_at {x : V} {v : Value} (I : Inv X pins σ H s) (r : RelV x v) (d : IsDd X.prog X.w X.K x H) :
    s.TypeIs v "dict" ∧ ∀ b, v = .ref b → ∃ ob, s.heap.get? b = some ob ∧ ob.dict = none := by
  obtain ⟨a, rfl, d⟩ := d
  obtain rfl : v = Value.ref a := r
  rcases d with ⟨kvs, e⟩ | ⟨kvs, e, hk⟩ | ⟨kvs, e, hk⟩
  · obtain ⟨_, hd, vs, _, dd⟩ := dk_of I.hok e
    refine ⟨dd.typeIs, fun b q => ?_⟩
    cases q
    obtain ⟨ob, _, _, h1, h2, _⟩ := dd
    exact ⟨ob, h1, h2.2.1⟩
  · obtain ⟨_, hd, xs, _, dd⟩ := dtAt I e hk
    refine ⟨dd.typeIs, fun b q => ?_⟩
    cases q
    obtain ⟨ob, _, _, h1, h2, _⟩ := dd
    exact ⟨ob, h1, h2.2.1⟩
  · obtain ⟨_, hd, xs, _, dd⟩ := dnAt I e hk
    refine ⟨dd.typeIs, fun b q => ?_⟩
    cases q
    obtain ⟨ob, _, _, h1, h2, _⟩ := dd
    exact ⟨ob, h1, h2.2.1⟩
/-- d.get(..) -/
theorem pe_mtD {o' e : Expr} {es : List Expr} {name : Str} {id : String} {apos cpos : Pos} {to : TE} {t : TA} {r : V → List V → Hp → VK → Prop} (slot : PySem.Slot "dict" name id) (hty : typeOf (.builtin id) = pure (.type "method_descriptor")) (hm : MtR X id r) (ho : PE X o' to) (ha : PA X (e :: es) t)
    (hbase : attributeBase o' name X.env (eval o' X.env) = eval o' X.env)
    (hfew : ((backTo cpos (starEach (e :: es) X.env)).all (fun x => !x.1) && (backToKw cpos (keywordEach [] X.env)).all (fun x => x.1.isSome)
      && decide ((e :: es).length + ([] : List Keyword).length + (if ([] : List Keyword).isEmpty then 0 else 1) < 30)) = true)
    (hline : (apos.endLine == cpos.line) = true) (hs : starEach (e :: es) X.env = (false, eval e X.env) :: starEach es X.env) (hplain : (backTo cpos (starEach es X.env)).any (·.1) = false) :
    PE X (.Call (.Attribute o' name apos) (e :: es) [] cpos) (fun σ H Q => to σ H fun x H1 => IsDd X.prog X.w X.K x H1 ∧ t σ H1 fun xs H2 => r x xs H2 Q) := by
  refine ⟨fun pins s σ H Q I h => ?_⟩
  refine wpAny_Call_method_late hbase hfew hline rfl (thn (ho.run pins s σ H _ I h) fun v s1 ⟨x, H1, I1, r1, ty, q1⟩ => ?_)
  obtain ⟨h1, h2⟩ := isDd_at I1 r1 ty
  refine ⟨"dict", id, PySem.F.plainAttrs_dict, slot, hty, h1, h2, ?_⟩
  have hA := ha.run cpos pins s1 σ H1 _ I1 q1
  rw [hs] at hA ⊢
  refine Calls.callWith_builtin (by show (false || (backTo cpos (starEach es X.env)).any (·.1)) = false; rw [hplain] <;> rfl) (Calls.evalArgs_plain ?_)
  exact thn hA fun us s2 ⟨vs, H2, I2, r2, q2⟩ => hm pins s2 σ H2 x vs v us Q I2 r1 r2 q2
/-- {}, with tuples for keys -/
theorem pe_dnewT' {pos : Pos} : PE X (.Dict [] [] pos) (fun _ H Q => ∀ p, H p = none → Q (.ref p) (upd H p (dtO X.prog X.w p []))) := ⟨fun pins s σ H Q I h => by
  refine wpAny_Dict_empty ⟨.ref s.heap.objs.size, _, I.laid (a := s.heap.objs.size) (o := dtO X.prog X.w s.heap.objs.size []) (t' := s.toks) (fun _ _ q => Heap.get?_push_of_some _ q) (Nat.le_refl _) ?_, rfl, h _ (I.hok.fresh (Nat.le_refl _))⟩
  exact dtO_ok (xs := []) (Nat.zero_le _) (beq_eq_false_iff_ne.mpr (Ne.symm (Nat.ne_of_lt I.big))) .nil ⟨_, #[], 0, Heap.get?_push_size _ rfl, ⟨rfl, rfl, rfl⟩, rfl, rfl, (by simp), List.nodup_nil⟩⟩
/-- {}, with tuples of any depth for keys -/
theorem pe_dnewN' {pos : Pos} : PE X (.Dict [] [] pos) (fun _ H Q => ∀ p, H p = none → Q (.ref p) (upd H p (dnO X.prog X.w p []))) := ⟨fun pins s σ H Q I h => by
  refine wpAny_Dict_empty ⟨.ref s.heap.objs.size, _, I.laid (a := s.heap.objs.size) (o := dnO X.prog X.w s.heap.objs.size []) (t' := s.toks) (fun _ _ q => Heap.get?_push_of_some _ q) (Nat.le_refl _) ?_, rfl, h _ (I.hok.fresh (Nat.le_refl _))⟩
  exact dnO_ok (xs := []) (Nat.zero_le _) (beq_eq_false_iff_ne.mpr (Ne.symm (Nat.ne_of_lt I.big))) .nil ⟨_, #[], 0, Heap.get?_push_size _ rfl, ⟨rfl, rfl, rfl⟩, rfl, rfl, (by simp), List.nodup_nil⟩⟩
/-- min(t) of a tuple of ints -/
theorem holdInts {h : Heap} : ∀ {ns : List Int} {us : List Value}, Vals (ns.map V.int) us → PySem.W.HoldAll h us ns
  | [], _, r => by cases r; exact PySem.W.HoldAll.nil
  | n :: ns, _, r => by
    rw [List.map_cons] at r
    cases r with
    | cons h1 t =>
      obtain ⟨tk, rfl⟩ := h1
      exact PySem.W.HoldAll.cons ⟨_, .int n tk⟩ (holdInts t)
theorem minOf_minI : ∀ (xs : List Int) (x : Int), PySem.W.minOf x xs = minI x xs
  | [], _ => rfl
  | y :: ys, x => by
    show PySem.W.minOf (if PySem.W.DatumOrd.lt y x = true then y else x) ys = minI (if y < x then y else x) ys
    have e : (if PySem.W.DatumOrd.lt y x = true then y else x) = (if y < x then y else x) := by
      have : PySem.W.DatumOrd.lt y x = decide (y < x) := rfl
      rw [this]
      by_cases z : y < x
      · rw [if_pos z, if_pos (decide_eq_true z)]
      · rw [if_neg z, if_neg (by simpa using z)]
    rw [e]
    exact minOf_minI ys _
theorem cr_minT (hc : X.calm = true) (hu : X.A.units + 64 < cLine) : CallR X (.builtin "min") (fun vs H Q => ∃ a i, ∃ is : List Int, vs = [V.ref a] ∧ SqT X.K H a ((i :: is).map V.int) ∧ Q (.int (minI i is)) H) := by
  intro pins s σ H vs us Q I r h
  obtain ⟨a, i, is, rfl, hs, q⟩ := h
  obtain ⟨its, rv, hl, _⟩ := I.tuple hs
  rw [Vals.ref1 r]
  have hd : (PySem.W.Datum.depth Int : Nat) = 0 := rfl
  refine PySem.W.min_tuple_datum (x := i) (xs := is) (I.ok.hd hc) (show s.heap.IsTuple a its.toArray from hl) (by simpa using holdInts rv) (by rw [hd]; omega) fun j v h' tk hj hv hk => ?_
  rw [minOf_minI] at hv
  obtain ⟨as, rd⟩ := hv
  have rd' : Reads h' v (.int (minI i is)) as := rd
  cases rd'
  exact ⟨.int _, H, I.kept hk, ⟨_, rfl⟩, q⟩
theorem maxOf_maxI : ∀ (xs : List Int) (x : Int), PySem.W.maxOf x xs = maxI x xs
  | [], _ => rfl
  | y :: ys, x => by
    show PySem.W.maxOf (if PySem.W.DatumOrd.lt x y = true then y else x) ys = maxI (if x < y then y else x) ys
    have e : (if PySem.W.DatumOrd.lt x y = true then y else x) = (if x < y then y else x) := by
      have : PySem.W.DatumOrd.lt x y = decide (x < y) := rfl
      rw [this]
      by_cases z : x < y
      · rw [if_pos z, if_pos (decide_eq_true z)]
      · rw [if_neg z, if_neg (by simpa using z)]
    rw [e]
    exact maxOf_maxI ys _
theorem cr_maxT (hc : X.calm = true) (hu : X.A.units + 64 < cLine) : CallR X (.builtin "max") (fun vs H Q => ∃ a i, ∃ is : List Int, vs = [V.ref a] ∧ SqT X.K H a ((i :: is).map V.int) ∧ Q (.int (maxI i is)) H) := by
  intro pins s σ H vs us Q I r h
  obtain ⟨a, i, is, rfl, hs, q⟩ := h
  obtain ⟨its, rv, hl, _⟩ := I.tuple hs
  rw [Vals.ref1 r]
  have hd : (PySem.W.Datum.depth Int : Nat) = 0 := rfl
  refine PySem.W.max_tuple_datum (x := i) (xs := is) (I.ok.hd hc) (show s.heap.IsTuple a its.toArray from hl) (by simpa using holdInts rv) (by rw [hd]; omega) fun j v h' tk hj hv hk => ?_
  rw [maxOf_maxI] at hv
  obtain ⟨as, rd⟩ := hv
  have rd' : Reads h' v (.int (maxI i is)) as := rd
  cases rd'
  exact ⟨.int _, H, I.kept hk, ⟨_, rfl⟩, q⟩
end
end Ev
/-! Dicts with tuples for keys: displays; d == {}. -/
namespace Ev
open PySem PySem.Spec L2
open PyProof.Rows hiding St
section
variable {prog : Program} {w : World} {A : Around} {E : Value → Shared → Prop} {s : Shared}
/-- a dict beside an empty one -/
theorem same_none {nm : String} {a b : Addr} {es : Array DictEntry} {ep ep2 : Nat} {Q : Bool → Shared → Prop} (ha : (a == sysModules) = false) (hb : (b == sysModules) = false) (da : s.heap.DictRaw a es ep) (db : s.heap.DictRaw b #[] ep2) (h : Q (decide (es.size = 0)) s) :
    wpAny (model prog w) A (Builtin.Dict.samePairs nm a b) Q E s := by
  obtain ⟨oa, ga, _, ta⟩ := da
  obtain ⟨ob, gb, _, tb⟩ := db
  have na : ¬ (a == sysModules) = true := by rw [ha]; decide
  have nb : ¬ (b == sysModules) = true := by rw [hb]; decide
  simp only [Builtin.Dict.samePairs, Builtin.Dict.showsAll, if_neg na, if_neg nb]
  refine wpAny_bind (wpAny_pure (wpAny_bind (wpAny_pure (wpAny_bind (wpAny_dictEntries ga ta (wpAny_bind (wpAny_dictEntries gb tb ?_)))))))
  by_cases z : es.size = 0
  · have q : Q true s := by simpa [z] using h
    rw [if_neg (by simp [z]), z]
    refine wpAny_bind (wpAny_dictEpoch ga ta (wpAny_bind ?_))
    rw [Std.Legacy.Range.forIn_eq_forIn_range']
    have e0 : (Std.Legacy.Range.size [:0]) = 0 := by decide
    rw [e0]
    show wpAny _ _ (forIn ([] : List Nat) _ _) _ _ s
    rw [List.forIn_nil]
    exact wpAny_pure (wpAny_pure q)
  · have q : Q false s := by simpa [z] using h
    rw [if_pos (by simpa using z)]
    exact wpAny_bind (wpAny_rule (wpAny_pure q))
theorem eq_none {a b : Addr} {es : Array DictEntry} {ep ep2 : Nat} {Q : Value → Shared → Prop} (ha : (a == sysModules) = false) (hb : (b == sysModules) = false) (da : s.heap.DictRaw a es ep) (db : s.heap.DictRaw b #[] ep2) (hu : A.units < cLine) (h : Q (.bool (decide (es.size = 0))) s) :
    wpAny (model prog w) A (compareOp .Eq (.ref a) (.ref b)) Q E s := by
  have ta := da.typeIs
  have tb := db.typeIs
  refine wpAny_richCompare_same_room (op := .Eq) ta tb PySem.F.slot_dict_eq (wpAny_call_entry PySem.F.slot_dict_eq ta PySem.F.entry_dict_eq ?_ (PySem.F.args_dict_eq_2 _ _)) hu
  show wpAny _ _ (Builtin.Dict.dictSlotArgs "__eq__" ⟨[.ref a, .ref b], []⟩ >>= _) _ _ s
  refine wpAny_bind (show wpAny _ _ (Builtin.Dict.notOrdered "__eq__" ⟨[.ref a, .ref b], []⟩ >>= _) _ _ s from wpAny_bind (wpAny_notOrdered_dict ta (show wpAny _ _ (pure (Value.ref a, Value.ref b)) _ _ s from wpAny_pure ?_)))
  refine wpAny_bind (wpAny_isInstance (T := "dict") tb PySem.F.sub_dict_dict ?_)
  simp only [Bool.not_true, Bool.false_eq_true, if_false]
  refine wpAny_bind (wpAny_pure (wpAny_bind (wpAny_pure (wpAny_bind (same_none ha hb da db (wpAny_pure ⟨_, rfl, (fun x => nomatch x), by simpa using h⟩))))))
end
section
variable {X : Cx} {pins : List (Addr × Obj)} {σ : St} {H : Hp} {s : Shared} {a : Addr}
/-- a dict of either kind, so many pairs -/
noncomputable def DLen (P : Program) (w : World) (H : Hp) (a : Addr) (n : Nat) : Prop := (∃ kvs, H a = some (.dK kvs) ∧ n = kvs.length) ∨ ∃ kvs, H a = some (dtO P w a kvs) ∧ n = kvs.length
theorem dlen_raw {n : Nat} (I : Inv X pins σ H s) (d : DLen X.prog X.w H a n) : (a == sysModules) = false ∧ ∃ es ep, s.heap.DictRaw a es ep ∧ es.size = n := by
  rcases d with ⟨kvs, e, rfl⟩ | ⟨kvs, e, rfl⟩
  · obtain ⟨_, hd, vs, rel, dd⟩ := dk_of I.hok e
    obtain ⟨es, ep, q, h1, _⟩ := dd.raw
    exact ⟨hd, es, ep, q, by rw [h1, ← rel.length]⟩
  · obtain ⟨⟨z, y, xs, rel, o, es, ep, h1, h2, h3, h4, h5⟩, _⟩ := (show ObjOk X.prog X.w H s.heap a (dtO X.prog X.w a kvs) from I.hok a _ e)
    refine ⟨y, es, ep, ⟨o, h1, h2, h3⟩, ?_⟩
    have : es.toList.length = xs.length := by rw [h4, List.length_map]
    rw [← Array.length_toList, this]
    exact (Paired.length rel).symm
theorem op_eqNone (hu : X.A.units + 64 < cLine) : OpR X (compareOp .Eq) (fun x y H Q => ∃ a b n, x = .ref a ∧ y = .ref b ∧ DLen X.prog X.w H a n ∧ H b = some (.dK []) ∧ Q (.bl (decide (n = 0))) H) := by
  intro pins s σ H x y v u Q I rx ry h
  obtain ⟨a, b, n, rfl, rfl, da, eb, q⟩ := h
  obtain rfl : v = Value.ref a := rx
  obtain rfl : u = Value.ref b := ry
  obtain ⟨ha, es, ep, ra, rfl⟩ := dlen_raw I da
  obtain ⟨hb, es2, ep2, rb, e2⟩ := dlen_raw I (.inl ⟨[], eb, rfl⟩ : DLen X.prog X.w H b 0)
  have : es2 = #[] := Array.eq_empty_of_size_eq_zero e2
  subst this
  exact eq_none ha hb ra rb (by omega) ⟨.bl _, H, I, rfl, q⟩
/-! displays -/
theorem carriesN (I : Inv X pins σ H s) : ∀ {kvs : List (List Key × Addr × V)} {ws : List (Value × Value)}, (∀ q ∈ kvs, SqT X.K H q.2.1 (q.1.map kV)) → VV (kvs.map fun kv => (V.ref kv.2.1, kv.2.2)) ws → ∃ ps, CarriesH (tupleKind (mixKind X.prog X.w)) s.heap ws ps ∧ KD kvs ps
  | [], _, _, r => by rw [List.map_nil] at r; cases r; exact ⟨[], trivial, .nil⟩
  | p :: kvs, _, hk, r => by
    rw [List.map_cons] at r
    cases r with
    | @cons x y xs ys h t =>
      obtain ⟨ps, c, q⟩ := carriesN I (fun q hq => hk q (by simp [hq])) t
      obtain ⟨y1, y2⟩ := y
      have e1 : y1 = Value.ref p.2.1 := h.1
      exact ⟨(p.1, p.2.1, y2) :: ps, ⟨e1, rfl, keyAt I (hk p (by simp)), c⟩, .cons ⟨rfl, rfl, h.2⟩ q⟩
theorem KD.keys {kvs : List (List Key × Addr × V)} {xs : List (List Key × Addr × Value)} (r : KD kvs xs) : xs.map (·.1) = kvs.map (·.1) := by
  induction r with
  | nil => rfl
  | cons h t ih => rw [List.map_cons, List.map_cons, ih, h.1]
/-- {(..): v, ..}; the new dict stands empty while the pairs are made -/
noncomputable def tDispN (X : Cx) (trs : List (TE × TE)) : TE := fun σ H Q => ∀ p, H p = none → tPairs trs σ (upd H p (.dK [])) fun ps H2 => H2 p = some (.dK []) ∧ ∃ kvs : List (List Key × Addr × V), ps = kvs.map (fun kv => (V.ref kv.2.1, kv.2.2)) ∧ (∀ q ∈ kvs, SqT X.K H2 q.2.1 (q.1.map kV)) ∧ (kvs.map (·.1)).Nodup ∧ kvs.length ≤ 15 ∧
  Q (.ref p) (upd H2 p (dtO X.prog X.w p kvs))
theorem pe_dispN {pos : Pos} {keys : List (Option Expr)} {values : List Expr} {trs : List (TE × TE)} (hu : X.A.units + 1 < cLine) (h : PPs X pos keys values trs) (hall : keys.all (·.isSome) = true) (hl : keys.length = values.length) (h0 : keys ≠ []) (h15 : keys.length ≤ 15) : PE X (.Dict keys values pos) (tDispN X trs) := by
  refine ⟨fun pins s σ H Q I q => ?_⟩
  have hn := I.hok.fresh (Nat.le_refl s.heap.objs.size)
  have I1 := I.laid (a := s.heap.objs.size) (o := .dK []) (h' := s.heap.push { cls := .type "dict", data := .dict #[] }) (t' := s.toks) (fun _ _ q => Heap.get?_push_of_some _ q) (Nat.le_refl _) (dk_empty s.heap I.big)
  have pl := pairTrees_length keys values X.env pos hall hl
  have p0 : pairTrees keys values X.env pos ≠ [] := fun z => h0 (List.length_eq_zero_iff.mp (by rw [← pl, z]; rfl))
  rw [arm_eval_Dict, zip_pairTrees keys values X.env pos hall hl, dictDisplay_pairs _ p0 (by rw [pl]; omega)]
  refine wpAny_bind (wpAny_standAt (wpAny_bind (wpAny_subDictH (knd := tupleKind (mixKind X.prog X.w)) (show (tupleKind (mixKind X.prog X.w)).room X.A from by have := hu; show X.A.units < cLine; omega) (by rw [pl]; exact h15) (thn (h.run pins _ σ _ _ I1 (q _ hn)) fun ws s2 ⟨ps, H2, I2, rel, e, kvs, ep, hk, nd, lk, q2⟩ => ?_))))
  subst ep
  obtain ⟨rs, c, rk⟩ := carriesN I2 hk rel
  obtain ⟨hd, es, ep, ⟨o, g1, g2, g3⟩, ez⟩ := dlen_raw I2 (.inl ⟨[], e, rfl⟩ : DLen X.prog X.w H2 s.heap.objs.size 0)
  have : es = #[] := Array.eq_empty_of_size_eq_zero ez
  subst this
  have ndr : (rs.map (·.1)).Nodup := by rw [rk.keys]; exact nd
  refine ⟨rs, c, ⟨o, #[], ep, g1, g2, g3, rfl, by simp, List.nodup_nil⟩, fun h' tk dd' hs => wpAny_pure ⟨.ref s.heap.objs.size, upd H2 s.heap.objs.size (dtO X.prog X.w s.heap.objs.size kvs), ?_, rfl, q2⟩⟩
  rw [show storedAllH [] rs = rs from storedAllH_append_of_fresh [] rs (by simpa using ndr)] at dd'
  have he : ∃ q, h'.get? s.heap.objs.size = some q := let ⟨q, _, _, hq, _⟩ := dd'; ⟨q, hq⟩
  exact d_write I2 (by rw [e]; exact True.intro) hs he (dtO_ok (by rw [sizeLine_eq]; omega) hd rk dd')
end
section
variable {K : Mx} {F : Hp} {θ : List Addr}
theorem putG_ok {κ : Type} [DecidableEq κ] {PK : κ → Addr → Prop} {k : κ} {t : Tr} {v : V} {b : Addr} (r : Rp K F θ t v) (hb : PK k b) {kvs : List (κ × Addr × V)} {vs : List Tr} (h : Rps K F θ vs (kvs.map (·.2.2))) (hk : ∀ p ∈ kvs, PK p.1 p.2.1) :
    (putD kvs k b v).map (·.1) = (putV (kvs.map (·.1)) vs k t).1 ∧ Rps K F θ (putV (kvs.map (·.1)) vs k t).2 ((putD kvs k b v).map (·.2.2)) ∧ ∀ p ∈ putD kvs k b v, PK p.1 p.2.1 := by
  unfold putV putD
  have ea : ((kvs.map (·.1)).any fun x => decide (x = k)) = kvs.any fun kv => decide (kv.1 = k) := by
    rw [List.any_map]; rfl
  rw [ea]
  split
  · refine ⟨?_, ?_, fun p hp => ?_⟩
    · rw [List.map_map]
      apply List.map_congr_left
      intro p _
      show (if p.1 = k then (p.1, p.2.1, v) else p).1 = p.1
      split <;> rfl
    · have go : ∀ {kvs : List (κ × Addr × V)} {vs : List Tr}, Rps K F θ vs (kvs.map (·.2.2)) → Rps K F θ (List.zipWith (fun k' v' => if k' = k then t else v') (kvs.map (·.1)) vs) ((kvs.map fun kv => if kv.1 = k then (kv.1, kv.2.1, v) else kv).map (·.2.2)) := by
        intro kvs
        induction kvs with
        | nil => intro vs h; cases h; exact .nil
        | cons p kvs ih =>
          intro vs h
          cases h with
          | cons h1 h2 =>
            rw [List.map_cons, List.map_cons, List.map_cons, List.zipWith_cons_cons]
            refine .cons ?_ (ih h2)
            show Rp K F θ (if p.1 = k then t else _) (if p.1 = k then (p.1, p.2.1, v) else p).2.2
            split
            · exact r
            · exact h1
      exact go h
    · obtain ⟨q, hq, rfl⟩ := List.mem_map.mp hp
      split
      · exact hk q hq
      · exact hk q hq
  · refine ⟨by rw [List.map_append]; rfl, by rw [List.map_append]; exact h.append (.cons r .nil), fun p hp => ?_⟩
    rcases List.mem_append.mp hp with hp | hp
    · exact hk p hp
    · simp at hp
      subst hp
      exact hb
theorem putD_ok {k : List Key} {t : Tr} {v : V} {b : Addr} (r : Rp K F θ t v) (hb : SqT K F b (k.map kV)) {kvs : List (List Key × Addr × V)} {vs : List Tr} (h : Rps K F θ vs (kvs.map (·.2.2))) (hk : ∀ p ∈ kvs, SqT K F p.2.1 (p.1.map kV)) :
    (putD kvs k b v).map (·.1) = (putV (kvs.map (·.1)) vs k t).1 ∧ Rps K F θ (putV (kvs.map (·.1)) vs k t).2 ((putD kvs k b v).map (·.2.2)) ∧ ∀ p ∈ putD kvs k b v, SqT K F p.2.1 (p.1.map kV) :=
  putG_ok (PK := fun k b => SqT K F b (k.map kV)) r hb h hk
theorem putN_ok {k : NestedKey} {t : Tr} {v : V} {b : Addr} (r : Rp K F θ t v) (hb : k.depth ≤ 8 ∧ KN K F k (.ref b)) {kvs : List (NestedKey × Addr × V)} {vs : List Tr} (h : Rps K F θ vs (kvs.map (·.2.2))) (hk : ∀ p ∈ kvs, p.1.depth ≤ 8 ∧ KN K F p.1 (.ref p.2.1)) :
    (putD kvs k b v).map (·.1) = (putV (kvs.map (·.1)) vs k t).1 ∧ Rps K F θ (putV (kvs.map (·.1)) vs k t).2 ((putD kvs k b v).map (·.2.2)) ∧ ∀ p ∈ putD kvs k b v, p.1.depth ≤ 8 ∧ KN K F p.1 (.ref p.2.1) :=
  putG_ok (PK := fun k b => k.depth ≤ 8 ∧ KN K F k (.ref b)) r hb h hk
end
end Ev
/-! Comprehensions of dicts with tuples for keys. -/
namespace Ev
open PySem PySem.Spec L2
open PyProof.Rows hiding St
section
variable {X : Cx}
/-- d[(..)] = v, by a comprehension -/
theorem set_dt {pins : List (Addr × Obj)} {σ : St} {H : Hp} {s : Shared} {E : Value → Shared → Prop} {D b : Addr} {kvs : List (List Key × Addr × V)} {k : List Key} {v : V} {r : Value} {Q : Unit → Shared → Prop} (hu : X.A.units + 1 < cLine) (I : Inv X pins σ H s) (hD : H D = some (dtO X.prog X.w D kvs))
    (hk : ∀ p ∈ kvs, SqT X.K H p.2.1 (p.1.map kV)) (hz : kvs.length < sizeLine) (hb : SqT X.K H b (k.map kV)) (rv : RelV v r) (h : ∀ s', Inv X pins σ (upd H D (dtO X.prog X.w D (putD kvs k b v))) s' → Q () s') : wpAny (model X.prog X.w) X.A (dictSet D (.ref b) r) Q E s := by
  obtain ⟨z, y, xs, rel, dd⟩ := dtAt I hD hk
  have hl : (putD kvs k b v).length ≤ sizeLine := by have := length_putD kvs k b v; omega
  refine wpAny_dictSet_heap (knd := tupleKind (mixKind X.prog X.w)) (hsz := by rw [← Paired.length rel]; exact z) (show X.A.units < cLine by omega) (keyAt I hb) dd fun g dg sg => h _ ?_
  obtain ⟨q, _, _, hq, _⟩ := id dg
  exact d_write I (by rw [hD]; exact True.intro) sg ⟨q, hq⟩ (dtO_ok hl y (rel.put k rv) dg)
/-- {k: v for target in iter}, the keys tuples: D the new dict -/
noncomputable def tDt (X : Cx) (wi : TI) (g : TG) (tk tv : TE) (vs : List Nat) : TE := fun σ H Q => wi σ H fun J H1 => ∀ D, H1 D = none → ∃ W : Nat → Nat → Hp → Prop, (∃ m, W 0 m (upd H1 D (dtO X.prog X.w D []))) ∧ ∀ i m H, W i m H →
  (J.stop i H ∧ Q (.ref D) H) ∨ (J.go i H ∧ ∃ Nx : Hp → Prop, (∀ H', Nx H' → ∃ m', m' < m ∧ W (i + 1) m' H') ∧ ∀ x H', J.yld i H x H' → g x (wipe σ vs) H' fun σ2 H2 => wipe σ2 vs = wipe σ vs ∧ tk σ2 H2 fun y H4 => tv σ2 H4 fun z H5 =>
    ∃ kvs k b, y = .ref b ∧ SqT X.K H5 b (k.map kV) ∧ H5 D = some (dtO X.prog X.w D kvs) ∧ (∀ p ∈ kvs, SqT X.K H5 p.2.1 (p.1.map kV)) ∧ kvs.length < sizeLine ∧ Nx (upd H5 D (dtO X.prog X.w D (putD kvs k b z))))
theorem new_dt {pins : List (Addr × Obj)} {σ : St} {H : Hp} {s : Shared} (I : Inv X pins σ H s) : Inv X pins σ (upd H s.heap.objs.size (dtO X.prog X.w s.heap.objs.size [])) { s with heap := s.heap.push { cls := .type "dict", data := .dict #[] } } := by
  refine I.laid (t' := s.toks) (fun _ _ q => Heap.get?_push_of_some _ q) (Nat.le_refl _) ?_
  exact dtO_ok (xs := []) (Nat.zero_le _) (beq_eq_false_iff_ne.mpr (Ne.symm (Nat.ne_of_lt I.big))) .nil ⟨_, #[], 0, Heap.get?_push_size _ rfl, ⟨rfl, rfl, rfl⟩, rfl, rfl, (by simp), List.nodup_nil⟩
theorem pe_dt {kx vx tg iter : Expr} {scope : Scope} {own : List (Str × Nat)} {pos : Pos} {wi : TI} {g : TG} {tk tv : TE} (hu : X.A.units + 1 < cLine) (hc : X.calm = true) (hN : X.N.Nodup) (hi : PI X tg iter wi) (ok : BlkOk X.N X.env.scope scope own)
    (hg : ∀ (s : Shared) (H : Hp) (C : Addr) (cl : List (Str × Addr)) (fp : List Addr), PG (X.blk s H scope (compEnvC scope cl C X.env) fp) tg g)
    (hk : ∀ (s : Shared) (H : Hp) (C : Addr) (cl : List (Str × Addr)) (fp : List Addr), PE (X.blk s H scope (compEnvC scope cl C X.env) fp) kx tk)
    (he : ∀ (s : Shared) (H : Hp) (C : Addr) (cl : List (Str × Addr)) (fp : List Addr), PE (X.blk s H scope (compEnvC scope cl C X.env) fp) vx tv) (hs : ∀ x, foldedSetIterable iter X.env x = pure x) :
    PE X (.DictComp kx vx [⟨tg, iter, [], 0⟩] scope pos) (tDt X wi g tk tv (own.map (·.2))) := by
  refine ⟨fun pins s σ H Q I h => ?_⟩
  rw [arm_eval_DictComp]
  have cells : ∀ p ∈ scope.names, p.2 = .free → ∃ c, X.env.cells.lookup p.1 = some c := fun p hp e => (ok.free p hp e).elim (fun k => I.ok.has _ (.inl k)) fun k => I.ok.has _ (.inr k)
  refine wpAny_comprehension_free rfl hs (closure_ok cells) ok.kind (fun p hp e => by rw [ok.uniq p hp, e]) (thn (hi.run pins s σ H _ I h) fun xv sa ha => thn ha fun itv sb hb => ?_)
  obtain ⟨it, fp, tn, J, Hb, rfl, Ib, T, stb, fpo, q⟩ := hb
  refine wpAny_newObj_type (newEnv_comp ?_)
  have Ic := new_dt Ib
  have Dn : Hb sb.heap.objs.size = none := Ib.hok.fresh (Nat.le_refl _)
  obtain ⟨W, ⟨m0, w0⟩, turn⟩ := q _ Dn
  have below : ∀ b ∈ fp, b < sb.heap.objs.size := fun b hb => (T.obj _ _ stb b hb).elim fun o e => Heap.lt_size e.1
  generalize hD : sb.heap.objs.size = D at *
  generalize hsc : ({ sb with heap := sb.heap.push { cls := .type "dict", data := .dict #[] } } : Shared) = sc at *
  have hpc : sc.heap = sb.heap.push { cls := .type "dict", data := .dict #[] } := by rw [← hsc]
  have size : sc.heap.objs.size = D + 1 := by rw [hpc, Heap.size_push, hD]
  have fpc : ∀ b ∈ fp, FpOk X pins (upd Hb D (dtO X.prog X.w D [])) b ∧ b < sc.heap.objs.size := fun b hb =>
    ⟨⟨by rw [upd_ne (Nat.ne_of_lt (below b hb))]; exact (fpo b hb).1, (fpo b hb).2⟩, by rw [size]; exact Nat.lt_succ_of_lt (below b hb)⟩
  have stc : tn 0 sc.heap := T.keep _ _ _ stb fun b _ o e => by rw [hpc]; exact Heap.get?_push_of_some _ e
  have Id := block_start Ic ok hN fpc
  generalize hcl : cellsFrom (sc.heap.objs.size + 1) scope.names (cloFrom X.env.cells scope.names []) = cl at *
  show codeAny _ _ (.compStart (.DictComp kx vx [⟨tg, iter, [], 0⟩] scope pos) 0 (.ref it) (.ref D) (compEnvC scope cl sc.heap.objs.size X.env)) (compPost (model X.prog X.w) X.A X.xe none (fun v s' => ∃ x H', Inv X pins σ H' s' ∧ RelV x v ∧ Q x H') (.ref D) sc.heap.objs.size) { sc with heap := pushCells (sc.heap.push { cls := .type "dict", data := .dict #[] }) scope.names }
  have pg := hg sc (upd Hb D (dtO X.prog X.w D [])) sc.heap.objs.size cl fp
  have pk := hk sc (upd Hb D (dtO X.prog X.w D [])) sc.heap.objs.size cl fp
  have pv := he sc (upd Hb D (dtO X.prog X.w D [])) sc.heap.objs.size cl fp
  have none0 : ∀ b ∈ fp, (upd Hb D (dtO X.prog X.w D [])) b = none := fun b hb => (fpc b hb).1.1
  have cL : (compEnvC scope cl sc.heap.objs.size X.env).locals = sc.heap.objs.size := rfl
  generalize hce : compEnvC scope cl sc.heap.objs.size X.env = ce at *
  generalize hHc : upd Hb D (dtO X.prog X.w D []) = Hc at *
  generalize hsd : ({ sc with heap := pushCells (sc.heap.push { cls := .type "dict", data := .dict #[] }) scope.names } : Shared) = sd at *
  have std : tn 0 sd.heap := T.keep _ _ _ stc fun b _ o e => by rw [← hsd]; exact pushCells_keeps _ _ _ _ (Heap.get?_push_of_some _ e)
  have fix : ∀ {τ : St} {H' : Hp} {s' : Shared}, Inv (X.blk sc Hc scope ce fp) [] τ H' s' → (∀ b ∈ fp, H' b = none) → ∀ b ∈ fp, FpOk (X.blk sc Hc scope ce fp) [] H' b := fun {τ H' s'} I' hn b hb =>
    ⟨hn b hb, (I'.ok.exf b hb).1, I'.ok.exfs b hb, .inl hb, (I'.ok.exf b hb).2, fun p hp => absurd (show p ∈ ([] : List (Addr × Obj)) ++ [] from hp) (by simp)⟩
  have after : ∀ {s' : Shared} {H' : Hp}, Inv (X.blk sc Hc scope ce fp) [] (wipe σ (own.map (·.2))) H' s' → Q (.ref D) H' → compPost (model X.prog X.w) X.A X.xe none (fun v s' => ∃ x H', Inv X pins σ H' s' ∧ RelV x v ∧ Q x H') (.ref D) sc.heap.objs.size (.ok .next) s' := fun {s' H'} I' qq => by
    have back : Inv X pins σ H' s' := Ic.call' (ch := fp) I'.os I'.base I'.hok I'.bare fun b hb => ⟨(fpc b hb).1.2.2.2.1, (fpc b hb).1.2.1, (fpc b hb).1.2.2.2.2.1, (fpc b hb).1.2.2.2.2.2⟩
    have free : H' ce.locals = none := I'.free
    rw [cL] at free
    obtain ⟨mm, ns, _⟩ := I'.loc
    have ns2 : s'.heap.Ns ce.locals mm := ns
    rw [cL] at ns2
    obtain ⟨f0, f1, f2, f3, f4, f5⟩ := Ic.fpOk (Nat.le_refl _) free
    exact ⟨mm, ns2, fun h'' sbt => ⟨.ref D, H', back.turned (t' := s'.toks) (fun b o hb e => (sbt.2 b hb).trans e) f0 f1 f3 f4 f5, rfl, qq⟩⟩
  have loop : codeAny (model X.prog X.w) X.A (.compLoop (.DictComp kx vx [⟨tg, iter, [], 0⟩] scope pos) 0 (.ref it) (.ref D) ce) (compPost (model X.prog X.w) X.A X.xe none (fun v s' => ∃ x H', Inv X pins σ H' s' ∧ RelV x v ∧ Q x H') (.ref D) sc.heap.objs.size) sd := by
    refine compLoop_anyD (fun n s' => ∃ i H', Inv (X.blk sc Hc scope ce fp) [] (wipe σ (own.map (·.2))) H' s' ∧ tn i s'.heap ∧ (∀ b ∈ fp, H' b = none) ∧ W i n H') ?_ m0 ⟨0, Hc, Id, std, none0, w0⟩
    rintro n se ⟨i, He, Ie, ste, ne, we⟩
    rcases turn i n He we with ⟨stop, qq⟩ | ⟨go, Nx, hNx, step⟩
    · refine thnF (T.done (X.blk sc Hc scope ce fp) rfl rfl rfl hc i [] se _ He (fun _ _ => False) Ie (fix Ie ne) ste stop) fun r sf ⟨hr, If⟩ => ?_
      subst hr
      exact after If qq
    · refine thnF (T.item (X.blk sc Hc scope ce fp) rfl rfl rfl hc i [] se _ He (fun _ _ => False) Ie (fix Ie ne) ste go) fun r sf ⟨u, hr, hf⟩ => ?_
      subst hr
      refine thnF hf fun _ sg ⟨x, Hg, Ig, rg, yg, stg, ng⟩ => thnF (pg.run _ sg _ Hg x u _ (Ig.pinned (fix Ig ng) (T.obj _ _ stg)) rg (step x Hg yg)) fun _ sh ⟨τ, Hh, Ih, wh, qh⟩ => ?_
      rw [List.forIn_nil]
      refine wpAny_pure ?_
      rw [if_pos rfl]
      refine thnF (pk.run _ sh τ Hh _ Ih qh) fun zk si ⟨yk, Hi, Ii, ri, qi⟩ => thnF (pv.run _ si τ Hi _ Ii qi) fun zv sj ⟨yv, Hj, Ij, rj, kvs, k, b, ek, kb, dj, kj, lj, nx⟩ => ?_
      subst ek
      cases (show zk = Value.ref b from ri)
      refine set_dt (X := X.blk sc Hc scope ce fp) hu Ij dj kj lj kb rj fun sk Ik => ?_
      obtain ⟨m', hm, w'⟩ := hNx _ nx
      have held : ∀ b ∈ fp, ∀ o, sg.heap.get? b = some o → sk.heap.get? b = some o ∧ upd Hj D (dtO X.prog X.w D (putD kvs k _ yv)) b = none := fun b hb o e =>
        (Ik.pin (b, o) (List.mem_append_right _ (List.mem_append_right _ (mem_pinsAt hb e)))).elim fun z1 z2 => ⟨z1, z2.1⟩
      refine ⟨m', hm, i + 1, _, (Ik.unpinned (pins := [])).weak (by rw [← wh, wipe_length]) (fun j v e => ?_), T.keep _ _ _ stg fun b hb o e => (held b hb o e).1, fun b hb => ?_, w'⟩
      · rw [← wh] at e
        exact (wipe_some e).1
      · obtain ⟨o, e, _⟩ := T.obj _ _ stg b hb
        exact (held b hb o e).2
  exact codeAny_compStart_dict loop (T.self X.A 0 _ _ _ std loop)
end
end Ev
/-! Operations by values. -/
namespace Ev
open PySem PySem.Spec L2
variable {K : Mx} {F F' G H : Hp} {θ θ' : List Addr} {s : Sta} {σ : St}

noncomputable abbrev MX (cl : List Str) (X : Cx) : Mx := ⟨X.prog, X.w, X.K, X.mg, cl⟩
noncomputable def Op.py : Op → Operator
  | .add => .Add | .sub => .Sub | .mul => .Mult | .fdiv => .FloorDiv | .mod => .Mod | .pow => .Pow
noncomputable def Cp.py : Cp → CmpOp
  | .eq => .Eq | .ne => .NotEq | .lt => .Lt | .le => .LtE | .gt => .Gt | .ge => .GtE | .isN => .Is | .notN => .IsNot | .inn => .In | .nin => .NotIn

/-- what is wanted of a result: the state stands, F has grown -/
noncomputable def Fin (K : Mx) (F G : Hp) (θ : List Addr) (s : Sta) (σ : St) (t : Tr) (Q : VK) : Prop :=
  ∀ u H' F', Rel K F' G θ s σ H' → FLe F F' → Rp K F' θ t u → Q u H'
theorem Fin.same {t : Tr} {u : V} {Q : VK} (k : Fin K F G θ s σ t Q) (R : Rel K F G θ s σ H) (r : Rp K F θ t u) : Q u H := k u H F R (FLe.refl F) r
theorem Fin.tup {l : List Tr} {xs : List V} {Q : VK} {p : Addr} (k : Fin K F G θ s σ (.tup l) Q) (R : Rel K F G θ s σ H) (n : H p = none) (r : Rps K F θ l xs) : Q (.ref p) (upd H p (.tup xs)) :=
  k _ _ _ (R.newF n) (FLe.upd1 (R.m.fle.none n)) (.tup (SqT.of upd_same) (r.mono (FLe.upd1 (R.m.fle.none n)) (List.prefix_refl _)))
theorem Fin.lst {l : List Tr} {xs : List V} {Q : VK} {p : Addr} (k : Fin K F G θ s σ (.lst l) Q) (R : Rel K F G θ s σ H) (n : H p = none) (r : Rps K F θ l xs) : Q (.ref p) (upd H p (.lst xs)) :=
  k _ _ _ (R.newF n) (FLe.upd1 (R.m.fle.none n)) (.lst upd_same (r.mono (FLe.upd1 (R.m.fle.none n)) (List.prefix_refl _)))

noncomputable def rOp (K : Mx) (x y t : Tr) : R2 := fun v w H Q => ∃ F G θ s σ, Rel K F G θ s σ H ∧ RpH K F θ H x v ∧ RpH K F θ H y w ∧ Fin K F G θ s σ t Q
theorem tupH {l : List Tr} {v : V} (r : RpH K F θ H (.tup l) v) (h : FLe F H) : ∃ a xs, v = .ref a ∧ SqT K H a xs ∧ Rps K F θ l xs ∧ SqT K F a xs := by
  have r' : Rp K F θ (.tup l) v := r
  cases r' with
  | tup e q => exact ⟨_, _, rfl, h.tup e, q, e⟩
theorem intH {i : Int} {v : V} (r : RpH K F θ H (.int i) v) : v = .int i := by
  have r' : Rp K F θ (.int i) v := r
  cases r'; rfl
theorem strH {i : Str} {v : V} (r : RpH K F θ H (.str i) v) : v = .str i := by
  have r' : Rp K F θ (.str i) v := r
  cases r'; rfl
theorem blH {i : Bool} {v : V} (r : RpH K F θ H (.bl i) v) : v = .bl i := by
  have r' : Rp K F θ (.bl i) v := r
  cases r'; rfl
theorem nonH {v : V} (r : RpH K F θ H .non v) : v = .non := by
  have r' : Rp K F θ .non v := r
  cases r'; rfl
theorem flstH {l : List Tr} {v : V} (r : RpH K F θ H (.flst l) v) (h : FLe F H) : ∃ a xs, v = .ref a ∧ SqL K H a xs ∧ Rps K F θ l xs := by
  have r' : Rp K F θ (.flst l) v := r
  cases r' with
  | flst e q => exact ⟨_, _, rfl, h.lst e, q⟩

theorem op_powB {X : Cx} : OpR X (binaryOp .Pow) (rI (fun i j => 0 ≤ j ∧ (Builtin.Int.intBits i : Int) * j ≤ 2 ^ 27) fun i j => .int (i ^ j.toNat)) := opI fun _ _ _ _ _ _ _ hc q => PyProof.Rows.pow_int hc.1 hc.2 q

theorem opB_ok {cl : List Str} {X : Cx} {o : Op} {x y t : Tr} (h : opB o x y = some t) : OpR X (binaryOp o.py) (rOp (MX cl X) x y t) := by
  intro pins s0 σ0 H v w v' w' Q I rv rw ⟨F, G, θ, s, σ, R, r1, r2, k⟩
  unfold opB at h
  split at h
  · cases h
    cases intH r1; cases intH r2
    exact op_add pins s0 σ0 H _ _ _ _ Q I rv rw ⟨_, _, rfl, rfl, k.same R (.int _)⟩
  · split at h
    · cases h
      cases strH r1; cases strH r2
      exact op_add_str pins s0 σ0 H _ _ _ _ Q I rv rw ⟨_, _, rfl, rfl, by assumption, k.same R (.str _)⟩
    · cases h
  · split at h
    · rename_i hz
      cases h
      obtain ⟨a, xs, rfl, ha, qa, fa⟩ := tupH r1 R.m.fle
      obtain ⟨b, ys, rfl, hb, qb, fb⟩ := tupH r2 R.m.fle
      refine op_catA pins s0 σ0 H _ _ _ _ Q I rv rw ⟨a, b, xs, ys, rfl, rfl, ha, hb, by rw [qa.length, qb.length]; exact hz, fun e => ?_, fun e e' => ?_, fun _ _ p np => ?_⟩
      · subst e
        cases qa
        exact k.same R (.tup fb qb)
      · subst e'
        cases qb
        exact k.same R (.tup fa (by simpa using qa))
      · exact k.tup R np (qa.append qb)
    · cases h
  · split at h
    · rename_i hz
      cases h
      obtain ⟨a, xs, rfl, ha, qa⟩ := r1
      obtain ⟨b, ys, rfl, hb, qb⟩ := r2
      exact op_cat pins s0 σ0 H _ _ _ _ Q I rv rw ⟨a, b, xs, ys, rfl, rfl, ha, hb, by rw [qa.length, qb.length]; exact hz, fun p np => k.lst R np (qa.append qb)⟩
    · cases h
  · cases h
    cases intH r1; cases intH r2
    exact op_sub pins s0 σ0 H _ _ _ _ Q I rv rw ⟨_, _, rfl, rfl, k.same R (.int _)⟩
  · split at h
    · cases h
      cases intH r1; cases intH r2
      exact op_mulW pins s0 σ0 H _ _ _ _ Q I rv rw ⟨_, _, rfl, rfl, by assumption, k.same R (.int _)⟩
    · cases h
  · split at h
    · rename_i hz
      cases h
      obtain ⟨a, xs, rfl, ha, qa⟩ := r1
      cases intH r2
      exact op_rep pins s0 σ0 H _ _ _ _ Q I rv rw ⟨a, _, xs, rfl, rfl, ha, hz.1, hz.2.1, by rw [qa.length]; exact hz.2.2, fun p np => k.lst R np (qa.rep _)⟩
    · cases h
  · split at h
    · cases h
      cases intH r1; cases intH r2
      exact op_fdivW pins s0 σ0 H _ _ _ _ Q I rv rw ⟨_, _, rfl, rfl, by assumption, k.same R (.int _)⟩
    · cases h
  · split at h
    · cases h
      cases intH r1; cases intH r2
      exact op_mod pins s0 σ0 H _ _ _ _ Q I rv rw ⟨_, _, rfl, rfl, by assumption, k.same R (.int _)⟩
    · cases h
  · split at h
    · cases h
      cases intH r1; cases intH r2
      exact op_powB pins s0 σ0 H _ _ _ _ Q I rv rw ⟨_, _, rfl, rfl, by assumption, k.same R (.int _)⟩
    · cases h
  · cases h
theorem opB_nb {o : Op} {x y t : Tr} (h : opB o x y = some t) : x.pure = true ∧ y.pure = true := by
  cases o <;> cases x <;> cases y <;> first | exact ⟨rfl, rfl⟩ | (exact nomatch h)

/-! ### data -/
mutual
theorem dp_of (hF : FLe F H) : ∀ (t : Tr) (v : V) (d : PyData), t.data = some d → RpH K F θ H t v → Dp K H v d
  | .non, v, d, e, r => by
    cases e; cases nonH r; exact .non
  | .bl b, v, d, e, r => by
    cases e; cases blH r; exact .bl b
  | .int i, v, d, e, r => by
    cases e; cases intH r; exact .int i
  | .str x, v, d, e, r => by
    cases e; cases strH r; exact .str x
  | .tup l, v, d, e, r => by
    obtain ⟨a, xs, rfl, h, q, _⟩ := tupH r hF
    simp only [Tr.data] at e
    cases e2 : datas l with
    | none => rw [e2] at e; cases e
    | some ds =>
      rw [e2] at e
      cases e
      exact .tup h (dps_of hF l xs ds e2 q)
  | .lst l, v, d, e, r => by
    obtain ⟨a, xs, rfl, h, q⟩ := r
    simp only [Tr.data] at e
    cases e2 : datas l with
    | none => rw [e2] at e; cases e
    | some ds =>
      rw [e2] at e
      cases e
      exact .lst (SqL.of h) (dps_of hF l xs ds e2 q)
  | .flst l, v, d, e, r => by
    obtain ⟨a, xs, rfl, h, q⟩ := flstH r hF
    simp only [Tr.data] at e
    cases e2 : datas l with
    | none => rw [e2] at e; cases e
    | some ds =>
      rw [e2] at e
      cases e
      exact .lst h (dps_of hF l xs ds e2 q)
  | .dk _ _, v, d, e, r => by cases e
  | .dt _ _, v, d, e, r => by cases e
  | .dn _ _, v, d, e, r => by cases e
  | .ins _ _ _, v, d, e, r => by cases e
  | .ob n, v, d, e, r => by cases e
  | .bor n, v, d, e, r => by cases e
theorem dps_of (hF : FLe F H) : ∀ (l : List Tr) (vs : List V) (ds : List PyData), datas l = some ds → Rps K F θ l vs → DpAll K H vs ds
  | [], vs, ds, e, r => by
    cases r
    simp only [datas] at e
    cases e
    exact .nil
  | t :: l, vs, ds, e, r => by
    cases r with
    | cons r1 r2 =>
      simp only [datas] at e
      cases e1 : t.data with
      | none => rw [e1] at e; cases e
      | some d =>
        cases e2 : datas l with
        | none => rw [e1, e2] at e; cases e
        | some ds' =>
          rw [e1, e2] at e
          cases e
          exact .cons (dp_of hF t _ d e1 (RpH.of hF r1)) (dps_of hF l _ ds' e2 r2)
end
theorem eqT_cases {x y : Tr} {b : Bool} (h : eqT x y = some b) : (∃ i j : Str, x = .str i ∧ y = .str j ∧ b = decide (i = j)) ∨ (∃ i j : Int, x = .int i ∧ y = .int j ∧ b = decide (i = j)) ∨ eqD x y = some b := by
  unfold eqT at h
  split at h
  · cases h; exact .inl ⟨_, _, rfl, rfl, rfl⟩
  · cases h; exact .inr (.inl ⟨_, _, rfl, rfl, rfl⟩)
  · exact .inr (.inr h)
theorem eqT_ok {x y : Tr} {b : Bool} (h : eqD x y = some b) : ∃ d e, x.data = some d ∧ y.data = some e ∧ SeqAt.shaped d = true ∧ SeqAt.shaped e = true ∧ b = PyData.eqv d e := by
  unfold eqD at h
  split at h
  · rename_i d e hd he
    split at h
    · rename_i hs
      rw [Bool.and_eq_true] at hs
      cases h
      exact ⟨d, e, hd, he, hs.1, hs.2, rfl⟩
    · cases h
  · cases h
theorem flat_ok {x : Tr} {v w : V} (h : flat x = some w) (r : RpH K F θ H x v) : v = w ∧ flatV v = true := by
  cases x with
  | non => cases h; cases nonH r; exact ⟨rfl, rfl⟩
  | bl b => cases h; cases blH r; exact ⟨rfl, rfl⟩
  | int b => cases h; cases intH r; exact ⟨rfl, rfl⟩
  | str b => cases h; cases strH r; exact ⟨rfl, rfl⟩
  | _ => cases h
theorem flats_ok (hF : FLe F H) : ∀ {l : List Tr} {vs ws : List V}, flats l = some ws → Rps K F θ l vs → vs = ws ∧ vs.all flatV = true
  | [], _, _, h, .nil => by cases h; exact ⟨rfl, rfl⟩
  | t :: l, _, _, h, .cons r1 r2 => by
    simp only [flats] at h
    cases e1 : flat t with
    | none => rw [e1] at h; cases h
    | some d =>
      cases e2 : flats l with
      | none => rw [e1, e2] at h; cases h
      | some ds' =>
        rw [e1, e2] at h
        cases h
        obtain ⟨rfl, f1⟩ := flat_ok e1 (RpH.of hF r1)
        obtain ⟨rfl, f2⟩ := flats_ok hF e2 r2
        exact ⟨rfl, by rw [List.all_cons, f1, f2]; rfl⟩
theorem keyT_ok {x : Tr} {k : Key} {v : V} (h : keyT x = some k) (r : RpH K F θ H x v) : v = kV k := by
  cases x with
  | int i => cases h; cases intH r; rfl
  | str i => cases h; cases strH r; rfl
  | _ => cases h
theorem keysT_ok (hF : FLe F H) : ∀ {l : List Tr} {ks : List Key} {vs : List V}, keysT l = some ks → Rps K F θ l vs → vs = ks.map kV
  | [], _, _, h, .nil => by cases h; rfl
  | t :: l, _, _, h, .cons r1 r2 => by
    simp only [keysT] at h
    cases e1 : keyT t with
    | none => rw [e1] at h; cases h
    | some k =>
      cases e2 : keysT l with
      | none => rw [e1, e2] at h; cases h
      | some ks' =>
        rw [e1, e2] at h
        cases h
        rw [List.map_cons, ← keyT_ok e1 (RpH.of hF r1), ← keysT_ok hF e2 r2]
theorem getK_ok {κ : Type} [DecidableEq κ] {k : κ} : ∀ {kvs : List (κ × V)} {l : List Tr}, Rps K F θ l (kvs.map (·.2)) → (∀ t, getK k (kvs.map (·.1)) l = some t → ∃ v, valV kvs k = some v ∧ Rp K F θ t v) ∧ (getK k (kvs.map (·.1)) l = none → valV kvs k = none)
  | [], [], _ => ⟨fun t h => (nomatch h), fun _ => rfl⟩
  | [], _ :: _, r => by cases r
  | p :: kvs, [], r => by cases r
  | p :: kvs, t :: l, r => by
    rw [List.map_cons] at r
    cases r with
    | cons r1 r2 =>
      obtain ⟨i1, i2⟩ := getK_ok (k := k) r2
      rw [List.map_cons]
      by_cases e : p.1 = k
      · rw [valV_pos e]
        have : getK k (p.1 :: kvs.map (·.1)) (t :: l) = some t := if_pos e
        rw [this]
        exact ⟨fun t' h => by cases h; exact ⟨_, rfl, r1⟩, fun h => by cases h⟩
      · rw [valV_neg e]
        have : getK k (p.1 :: kvs.map (·.1)) (t :: l) = getK k (kvs.map (·.1)) l := if_neg e
        rw [this]
        exact ⟨i1, i2⟩
theorem valT_valV {κ : Type} [DecidableEq κ] (k : κ) : ∀ kvs : List (κ × Addr × V), valT kvs k = valV (kvs.map fun p => (p.1, p.2.2)) k
  | [] => rfl
  | p :: r => by
    rw [List.map_cons]
    by_cases e : p.1 = k
    · rw [valV_pos (p := (p.1, p.2.2)) e]
      simp [valT, List.find?_cons, e]
    · rw [valV_neg (p := (p.1, p.2.2)) e, ← valT_valV k r]
      simp [valT, List.find?_cons, e]
mutual
theorem keyN_ok : ∀ (t : Tr) (k : NestedKey) (v : V), keyN t = some k → Rp K F θ t v → KN K.K F k v
  | .non, k, v, e, r => by
    simp only [keyN] at e; cases e; cases r; unfold KN; rfl
  | .int i, k, v, e, r => by
    simp only [keyN] at e; cases e; cases r; unfold KN; rfl
  | .str x, k, v, e, r => by
    simp only [keyN] at e; cases e; cases r; unfold KN; rfl
  | .tup l, k, v, e, r => by
    simp only [keyN] at e
    cases e2 : keysN l with
    | none => rw [e2] at e; cases e
    | some ks =>
      rw [e2] at e
      cases e
      cases r with
      | tup q z =>
        unfold KN
        exact ⟨_, _, rfl, q, keysN_ok l ks _ e2 z⟩
  | .bl b, k, v, e, r => by simp only [keyN] at e; cases e
  | .lst l, k, v, e, r => by simp only [keyN] at e; cases e
  | .flst l, k, v, e, r => by simp only [keyN] at e; cases e
  | .dk _ _, k, v, e, r => by simp only [keyN] at e; cases e
  | .dt _ _, k, v, e, r => by simp only [keyN] at e; cases e
  | .dn _ _, k, v, e, r => by simp only [keyN] at e; cases e
  | .ins _ _ _, k, v, e, r => by simp only [keyN] at e; cases e
  | .ob n, k, v, e, r => by simp only [keyN] at e; cases e
  | .bor n, k, v, e, r => by simp only [keyN] at e; cases e
theorem keysN_ok : ∀ (l : List Tr) (ks : List NestedKey) (vs : List V), keysN l = some ks → Rps K F θ l vs → KNs K.K F ks vs
  | [], ks, vs, e, r => by
    simp only [keysN] at e; cases e; cases r; unfold KNs; rfl
  | t :: l, ks, vs, e, r => by
    simp only [keysN] at e
    cases e1 : keyN t with
    | none => rw [e1] at e; cases e
    | some k =>
      cases e2 : keysN l with
      | none => rw [e1, e2] at e; cases e
      | some ks' =>
        rw [e1, e2] at e
        cases e
        cases r with
        | cons q z =>
          unfold KNs
          exact ⟨_, _, rfl, keyN_ok t k _ e1 q, keysN_ok l ks' _ e2 z⟩
end
theorem nkey_ok {y : Tr} {k : NestedKey} {v : V} (h : nkey y = some k) (r : RpH K F θ H y v) : ∃ b, v = .ref b ∧ k.depth ≤ 8 ∧ KN K.K F k (.ref b) := by
  unfold nkey at h
  split at h
  · rename_i l
    split at h
    · rename_i k' e
      split at h
      · rename_i hd
        cases h
        have r' : Rp K F θ (.tup l) v := r
        have z := keyN_ok _ _ _ e r'
        cases r' with
        | tup q _ => exact ⟨_, rfl, hd, z⟩
      · cases h
    · cases h
  · cases h
/-- a look-up, as the heap has it -/
theorem dgetT_ok (hF : FLe F H) {d y : Tr} {o : Option Tr} {v w : V} (h : dgetT d y = some o) (r1 : RpH K F θ H d v) (r2 : RpH K F θ H y w) : ∃ a r, v = .ref a ∧ DG K.P K.w K H a w r ∧ (∀ t, o = some t → ∃ x, r = some x ∧ Rp K F θ t x) ∧ (o = none → r = none) := by
  unfold dgetT at h
  split at h
  · obtain ⟨k, hk, rfl⟩ := (show ∃ k, keyT y = some k ∧ getK k _ _ = o by cases e : keyT y with
      | none => rw [e] at h; cases h
      | some k => rw [e] at h; exact ⟨k, rfl, Option.some.inj h⟩)
    obtain ⟨a, kvs, rfl, e, e2, q⟩ := r1
    subst e2
    obtain ⟨i1, i2⟩ := getK_ok (k := k) q
    exact ⟨a, valV kvs k, rfl, .inl ⟨kvs, k, e, keyT_ok hk r2, rfl⟩, i1, i2⟩
  · rename_i ks vs l
    obtain ⟨k, hk, rfl⟩ := (show ∃ k, keysT l = some k ∧ getK k _ _ = o by cases e : keysT l with
      | none => rw [e] at h; cases h
      | some k => rw [e] at h; exact ⟨k, rfl, Option.some.inj h⟩)
    obtain ⟨a, kvs, rfl, e, e2, q, hks⟩ := r1
    subst e2
    obtain ⟨b, xs, rfl, hb, qb, _⟩ := tupH r2 hF
    obtain rfl := keysT_ok hF hk qb
    have q' : Rps K F θ vs ((kvs.map fun p => (p.1, p.2.2)).map (·.2)) := by rw [List.map_map]; exact q
    obtain ⟨i1, i2⟩ := getK_ok (k := k) q'
    have em : (kvs.map fun p => (p.1, p.2.2)).map (·.1) = kvs.map (·.1) := by rw [List.map_map]; rfl
    rw [em, ← valT_valV] at i1 i2
    exact ⟨a, valT kvs k, rfl, .inr (.inl ⟨kvs, k, b, e, fun p hp => hF.tup (hks p hp), rfl, hb, rfl⟩), i1, i2⟩
  · rename_i ks vs
    obtain ⟨k, hk, rfl⟩ := (show ∃ k, nkey y = some k ∧ getK k _ _ = o by cases e : nkey y with
      | none => rw [e] at h; cases h
      | some k => rw [e] at h; exact ⟨k, rfl, Option.some.inj h⟩)
    obtain ⟨a, kvs, rfl, e, e2, q, hks⟩ := r1
    subst e2
    obtain ⟨b, rfl, hd, hb⟩ := nkey_ok hk r2
    have q' : Rps K F θ vs ((kvs.map fun p => (p.1, p.2.2)).map (·.2)) := by rw [List.map_map]; exact q
    obtain ⟨i1, i2⟩ := getK_ok (k := k) q'
    have em : (kvs.map fun p => (p.1, p.2.2)).map (·.1) = kvs.map (·.1) := by rw [List.map_map]; rfl
    rw [em, ← valT_valV] at i1 i2
    exact ⟨a, valT kvs k, rfl, .inr (.inr ⟨kvs, k, b, e, fun p hp => ⟨(hks p hp).1, KN.mono hF _ _ (hks p hp).2⟩, rfl, ⟨hd, KN.mono hF _ _ hb⟩, rfl⟩), i1, i2⟩
  · cases h
/-- a comparison's reading -/
noncomputable def rCp (K : Mx) (x y : Tr) (b : Bool) : R2 := fun v w H Q => ∃ F θ, FLe F H ∧ RpH K F θ H x v ∧ RpH K F θ H y w ∧ Q (.bl b) H
/-- x among data of any depth -/
noncomputable def rInQ (K : Mx) (b : Bool) (x y : V) (H : Hp) : Prop := ∃ d ds, Dp K.K H x d ∧ (Dp K.K H y (.list ds) ∨ Dp K.K H y (.tuple ds)) ∧ SeqAt.shaped d = true ∧ PyData.canLayAll0 ds = true ∧ d.depth ≤ 60 ∧ b = ds.any fun z => PyData.eqv z d
theorem inQ_ok {x y : Tr} {b : Bool} {v w : V} (hF : FLe F H) (h : inQ x y = some b) (r1 : RpH K F θ H x v) (r2 : RpH K F θ H y w) : rInQ K b v w H := by
  unfold inQ at h
  split at h
  · rename_i d ds h1 h2
    split at h
    · rename_i hc
      cases h
      simp only [Bool.and_eq_true, decide_eq_true_eq] at hc
      exact ⟨d, ds, dp_of hF _ _ _ h1 r1, .inl (dp_of hF _ _ _ h2 r2), hc.1.1, SeqAt.canLay_of_shaped hc.1.2, hc.2, rfl⟩
    · cases h
  · rename_i d ds h1 h2
    split at h
    · rename_i hc
      cases h
      simp only [Bool.and_eq_true, decide_eq_true_eq] at hc
      exact ⟨d, ds, dp_of hF _ _ _ h1 r1, .inr (dp_of hF _ _ _ h2 r2), hc.1.1, SeqAt.canLay_of_shaped hc.1.2, hc.2, rfl⟩
    · cases h
  · cases h
theorem op_inQ {cl : List Str} {X : Cx} (hu : X.A.units + 64 < cLine) : OpR X (compareOp .In) (fun x y H Q => ∃ b, rInQ (MX cl X) b x y H ∧ Q (.bl b) H) := by
  intro pins s σ H x y v u Q I rx ry h
  obtain ⟨b, ⟨d, ds, hd, he, sd, se, hz, rfl⟩, q⟩ := h
  obtain ⟨as, r1⟩ := Dp.reads I d x v hd rx
  have h2 : min (PyData.depthAll ds) d.depth ≤ d.depth := Nat.min_le_right _ _
  rcases he with he | he
  · obtain ⟨bs, r2⟩ := Dp.reads I _ y u he ry
    exact SeqAt.in_list_reads r2 r1 se (SeqAt.canLay_of_shaped sd) (by omega) ⟨.bl _, H, I, rfl, q⟩
  · obtain ⟨bs, r2⟩ := Dp.reads I _ y u he ry
    exact SeqAt.in_tuple_reads r2 r1 se (SeqAt.canLay_of_shaped sd) (by omega) ⟨.bl _, H, I, rfl, q⟩
theorem op_notInQ {cl : List Str} {X : Cx} (hu : X.A.units + 64 < cLine) : OpR X (compareOp .NotIn) (fun x y H Q => ∃ b, rInQ (MX cl X) b x y H ∧ Q (.bl (!b)) H) := by
  intro pins s σ H x y v u Q I rx ry h
  obtain ⟨b, ⟨d, ds, hd, he, sd, se, hz, rfl⟩, q⟩ := h
  obtain ⟨as, r1⟩ := Dp.reads I d x v hd rx
  have h2 : min (PyData.depthAll ds) d.depth ≤ d.depth := Nat.min_le_right _ _
  rcases he with he | he
  · obtain ⟨bs, r2⟩ := Dp.reads I _ y u he ry
    exact SeqAt.notIn_list_reads r2 r1 se (SeqAt.canLay_of_shaped sd) (by omega) ⟨.bl _, H, I, rfl, q⟩
  · obtain ⟨bs, r2⟩ := Dp.reads I _ y u he ry
    exact SeqAt.notIn_tuple_reads r2 r1 se (SeqAt.canLay_of_shaped sd) (by omega) ⟨.bl _, H, I, rfl, q⟩
theorem inT_ok {x y : Tr} {b : Bool} {v w : V} (hF : FLe F H) (h : inT x y = some b) (r1 : RpH K F θ H x v) (r2 : RpH K F θ H y w) :
    (∃ p xs, w = .ref p ∧ (SqL K H p xs ∨ SqT K H p xs) ∧ flatV v = true ∧ xs.all flatV = true ∧ b = inV v xs) ∨ (∃ i j, v = .str i ∧ w = .str j ∧ b = !(Builtin.Str.occurrences j i 0 j.length 1).isEmpty) ∨ (∃ a o, w = .ref a ∧ DG K.P K.w K H a v o ∧ b = o.isSome) ∨ rInQ K b v w H := by
  have dct : ∀ {d : Tr}, (dgetT d x).map Option.isSome = some b → RpH K F θ H d w → ∃ a o, w = .ref a ∧ DG K.P K.w K H a v o ∧ b = o.isSome := by
    intro d hh rr
    cases e : dgetT d x with
    | none => rw [e] at hh; cases hh
    | some o =>
      rw [e] at hh
      cases hh
      obtain ⟨a, r, h1, h2, h3, h4⟩ := dgetT_ok hF e rr r1
      refine ⟨a, r, h1, h2, ?_⟩
      cases o with
      | none => rw [h4 rfl]; rfl
      | some t => obtain ⟨z, h5, _⟩ := h3 t rfl; rw [h5]; rfl
  have go : ∀ {l : List Tr} {xs : List V} {a : Addr}, (match flat x, flats l with
      | some v, some vs => some (inV v vs)
      | _, _ => inQ x y) = some b → (SqL K H a xs ∨ SqT K H a xs) → Rps K F θ l xs → (∃ p xs, V.ref a = .ref p ∧ (SqL K H p xs ∨ SqT K H p xs) ∧ flatV v = true ∧ xs.all flatV = true ∧ b = inV v xs) ∨ inQ x y = some b := by
    intro l xs a h q r
    split at h
    · rename_i v' vs' h1 h2
      cases h
      obtain ⟨rfl, f1⟩ := flat_ok h1 r1
      obtain ⟨rfl, f2⟩ := flats_ok hF h2 r
      exact .inl ⟨a, _, rfl, q, f1, f2, rfl⟩
    · exact .inr h
  have go2 : ∀ {l : List Tr} {xs : List V} {a : Addr}, w = .ref a → (match flat x, flats l with
      | some v, some vs => some (inV v vs)
      | _, _ => inQ x y) = some b → (SqL K H a xs ∨ SqT K H a xs) → Rps K F θ l xs → (∃ p xs, w = .ref p ∧ (SqL K H p xs ∨ SqT K H p xs) ∧ flatV v = true ∧ xs.all flatV = true ∧ b = inV v xs) ∨ (∃ i j, v = .str i ∧ w = .str j ∧ b = !(Builtin.Str.occurrences j i 0 j.length 1).isEmpty) ∨ (∃ a o, w = .ref a ∧ DG K.P K.w K H a v o ∧ b = o.isSome) ∨ rInQ K b v w H := by
    intro l xs a hw h q r
    subst hw
    rcases go h q r with g | g
    · exact .inl g
    · exact .inr (.inr (.inr (inQ_ok hF g r1 r2)))
  cases y with
  | tup l =>
    obtain ⟨a, xs, rfl, q, r, _⟩ := tupH r2 hF
    exact go2 rfl h (.inr q) r
  | lst l =>
    obtain ⟨a, xs, rfl, q, r⟩ := r2
    exact go2 rfl h (.inl (SqL.of q)) r
  | flst l =>
    obtain ⟨a, xs, rfl, q, r⟩ := flstH r2 hF
    exact go2 rfl h (.inl q) r
  | str z =>
    cases strH r2
    simp only [inT] at h
    cases x with
    | str y =>
      cases strH r1
      cases h
      exact .inr (.inl ⟨y, z, rfl, rfl, rfl⟩)
    | _ => cases h
  | dk ks vs => exact .inr (.inr (.inl (dct h r2)))
  | dt ks vs => exact .inr (.inr (.inl (dct h r2)))
  | dn ks vs => exact .inr (.inr (.inl (dct h r2)))
  | _ => cases h
theorem map_some {α β : Type} {f : α → β} {o : Option α} {b : β} (h : o.map f = some b) : ∃ a, o = some a ∧ f a = b := by
  cases o with
  | none => cases h
  | some a => exact ⟨a, rfl, by simpa using h⟩
theorem opC_ok {cl : List Str} {X : Cx} {o : Cp} {x y : Tr} {b : Bool} (hu : X.A.units + 64 < cLine) (h : opC o x y = some b) : OpR X (compareOp o.py) (rCp (MX cl X) x y b) := by
  intro pins s0 σ0 H v w v' w' Q I rv rw ⟨F, θ, hF, r1, r2, k⟩
  unfold opC at h
  split at h
  · rcases eqT_cases h with ⟨i, j, rfl, rfl, rfl⟩ | ⟨i, j, rfl, rfl, rfl⟩ | h
    · cases strH r1
      cases strH r2
      exact op_eq pins s0 σ0 H _ _ _ _ Q I rv rw ⟨rfl, by simpa using k⟩
    · cases intH r1
      cases intH r2
      exact op_eq pins s0 σ0 H _ _ _ _ Q I rv rw ⟨rfl, by simpa using k⟩
    obtain ⟨d, e, h1, h2, h3, h4, rfl⟩ := eqT_ok h
    exact op_eqD hu pins s0 σ0 H _ _ _ _ Q I rv rw ⟨d, e, dp_of hF _ _ _ h1 r1, dp_of hF _ _ _ h2 r2, h3, h4, k⟩
  · obtain ⟨c, hc, rfl⟩ := map_some h
    rcases eqT_cases hc with ⟨i, j, rfl, rfl, rfl⟩ | ⟨i, j, rfl, rfl, rfl⟩ | hc
    · cases strH r1
      cases strH r2
      exact op_ne pins s0 σ0 H _ _ _ _ Q I rv rw ⟨rfl, by simpa using k⟩
    · cases intH r1
      cases intH r2
      exact op_ne pins s0 σ0 H _ _ _ _ Q I rv rw ⟨rfl, by simpa using k⟩
    obtain ⟨d, e, h1, h2, h3, h4, rfl⟩ := eqT_ok hc
    exact op_neD hu pins s0 σ0 H _ _ _ _ Q I rv rw ⟨d, e, dp_of hF _ _ _ h1 r1, dp_of hF _ _ _ h2 r2, h3, h4, k⟩
  · cases h; cases intH r1; cases intH r2
    exact op_lt pins s0 σ0 H _ _ _ _ Q I rv rw ⟨_, _, rfl, rfl, k⟩
  · cases h; cases intH r1; cases intH r2
    exact op_le pins s0 σ0 H _ _ _ _ Q I rv rw ⟨_, _, rfl, rfl, k⟩
  · cases h; cases intH r1; cases intH r2
    exact op_gt pins s0 σ0 H _ _ _ _ Q I rv rw ⟨_, _, rfl, rfl, k⟩
  · cases h; cases intH r1; cases intH r2
    exact op_ge pins s0 σ0 H _ _ _ _ Q I rv rw ⟨_, _, rfl, rfl, k⟩
  · cases nonH r2
    refine op_isN pins s0 σ0 H _ _ _ _ Q I rv rw ⟨rfl, ?_⟩
    have e : decide (v = V.non) = b := by
      cases x <;> first
        | (cases h; cases nonH r1; rfl)
        | (cases h; cases blH r1; rfl)
        | (cases h; cases intH r1; rfl)
        | (cases h; cases strH r1; rfl)
        | (cases h; obtain ⟨_, _, rfl, _⟩ := tupH r1 hF; rfl)
        | (cases h; obtain ⟨_, _, rfl, _⟩ := flstH r1 hF; rfl)
        | (cases h; obtain ⟨_, _, rfl, _⟩ := r1; rfl)
        | (cases h; obtain ⟨_, _, _, _, rfl, _⟩ := r1; rfl)
        | (cases h; exact r1.elim)
        | (cases h; have r' : Rp _ _ _ (Tr.ob _) _ := r1; cases r'; rfl)
    rw [e]
    exact k
  · cases nonH r2
    refine op_notN pins s0 σ0 H _ _ _ _ Q I rv rw ⟨rfl, ?_⟩
    have e : (!decide (v = V.non)) = b := by
      cases x <;> first
        | (cases h; cases nonH r1; rfl)
        | (cases h; cases blH r1; rfl)
        | (cases h; cases intH r1; rfl)
        | (cases h; cases strH r1; rfl)
        | (cases h; obtain ⟨_, _, rfl, _⟩ := tupH r1 hF; rfl)
        | (cases h; obtain ⟨_, _, rfl, _⟩ := flstH r1 hF; rfl)
        | (cases h; obtain ⟨_, _, rfl, _⟩ := r1; rfl)
        | (cases h; obtain ⟨_, _, _, _, rfl, _⟩ := r1; rfl)
        | (cases h; exact r1.elim)
        | (cases h; have r' : Rp _ _ _ (Tr.ob _) _ := r1; cases r'; rfl)
    rw [e]
    exact k
  · cases h; cases blH r1; cases blH r2
    exact op_is_bl pins s0 σ0 H _ _ _ _ Q I rv rw ⟨_, _, rfl, rfl, k⟩
  · cases h; cases blH r1; cases blH r2
    exact op_isnot_bl pins s0 σ0 H _ _ _ _ Q I rv rw ⟨_, _, rfl, rfl, k⟩
  · rcases inT_ok hF h r1 r2 with ⟨p, xs, rfl, q, f1, f2, rfl⟩ | ⟨i, j, rfl, rfl, rfl⟩ | ⟨a, o, rfl, g, rfl⟩ | g
    · exact op_in_seq pins s0 σ0 H _ _ _ _ Q I rv rw ⟨p, xs, rfl, q, f1, f2, k⟩
    · exact op_in_str pins s0 σ0 H _ _ _ _ Q I rv rw ⟨i, j, rfl, rfl, k⟩
    · exact op_inD hu pins s0 σ0 H _ _ _ _ Q I rv rw ⟨a, o, rfl, g, k⟩
    · exact op_inQ hu pins s0 σ0 H _ _ _ _ Q I rv rw ⟨b, g, k⟩
  · obtain ⟨c, hc, rfl⟩ := map_some h
    rcases inT_ok hF hc r1 r2 with ⟨p, xs, rfl, q, f1, f2, rfl⟩ | ⟨i, j, rfl, rfl, rfl⟩ | ⟨a, o, rfl, g, rfl⟩ | g
    · exact op_notIn_seq pins s0 σ0 H _ _ _ _ Q I rv rw ⟨p, xs, rfl, q, f1, f2, k⟩
    · exact op_notin_str pins s0 σ0 H _ _ _ _ Q I rv rw ⟨i, j, rfl, rfl, k⟩
    · exact op_notInD hu pins s0 σ0 H _ _ _ _ Q I rv rw ⟨a, o, rfl, g, k⟩
    · exact op_notInQ hu pins s0 σ0 H _ _ _ _ Q I rv rw ⟨c, g, k⟩
  · cases h
end Ev
/-! Defs that are called where no repr is under way: as FnOk, with that fact handed on. -/
namespace Ev
open PySem PySem.Spec L2
open PyProof.Rows hiding St

structure FnG (P : Program) (w : World) (K : PySem.W.Frag) (mg : Str → Option Value) (base : Heap) (k : Nat) (f : Addr) (fd : FuncData) (ps : List Str) (sp : Sp) : Prop where
  len : ∀ vs H Q E, sp vs H Q E → vs.length = ps.length
  run : ∀ (A : Around) (outer : List Env) (s : Shared) (H : Hp) (args : Args) (us : List Value) (vs : List V) (Q : VK) (E : XK), Room k A → A.guards = some [] → Env0 P w K mg base A outer s H →
    BindsTo s fd args (ps.zip us) → Vals vs us → sp vs H Q E → codeAny (model P w) A (.call (.ref f) args) (CR CX0 outer P w H s Q E) s
variable {P : Program} {w : World} {K : PySem.W.Frag} {mg : Str → Option Value} {base : Heap} {k : Nat} {f : Addr} {fd : FuncData} {ps N : List Str} {sp : Sp}
theorem FnG.mono {j : Nat} (F : FnG P w K mg base j f fd ps sp) (h : j ≤ k) : FnG P w K mg base k f fd ps sp :=
  ⟨F.len, fun A outer s H args us vs Q E hr => F.run A outer s H args us vs Q E (hr.mono h)⟩

theorem fnG {x qual : Str} {st : Stmt} (F : Fun K x qual st f fd) (S : FnScope N ps (defScope st)) (len : ∀ vs H Q E, sp vs H Q E → vs.length = ps.length)
    (hbody : ∀ (cdv : Value) (A : Around) (outer : List Env) (s : Shared) (H : Hp) (vs : List V) (Q : VK) (E : XK), Room k (A.deeper (envOfC qual (defScope st) s.heap.objs.size f cdv)) → A.guards = some [] → sp vs H Q E →
      ∃ t, PSs (cxOf CX0 P w K mg base N qual (defScope st) f cdv A outer s H E).nox (defBody st) t ∧ t { nx := fun _ H' => Q .non H', rt := Q } (start N vs) H) : FnG P w K mg base (k + 1) f fd ps sp := by
  obtain ⟨oc, od, kV, doc, pm, an, cdv, ct, osl, rfl, lk, hcd⟩ := F.ex
  refine ⟨len, fun A outer s H args us vs Q E hr hgd e0 hb r hsp => ?_⟩
  have KX : K.In s.heap := e0.mod.kin.keeps fun b o e => (e0.bs b o e).1
  have lim : s.heap.NoLimit := e0.mod.nolimit.keeps fun b o e => (e0.bs b o e).1
  have hkind : ∀ y ∈ ps.zip us, (defScope st).names.lookup y.1 = some .local ∨ ((defScope st).names.lookup y.1 = some .cell ∧ ((cellsFrom (s.heap.objs.size + 1) (defScope st).names []).lookup y.1).isSome = true) := by
    rintro ⟨n, v⟩ hy
    rcases S.par n (List.of_mem_zip hy).1 with q | q
    · exact .inl q
    · exact .inr ⟨q, PySem.W.cellsFrom_some _ _ _ (.inl q)⟩
  have hlen := len _ _ _ _ hsp
  refine codeAny_call_function hr.depth (KX _ _ lk) rfl S.co S.gen rfl (PySem.W.codeRec_of KX hcd) (hb _ _ _ _ ?_)
  refine wpAny_newFunctionEnv_cells S.kind hkind fun env he s1 x => ?_
  subst he
  refine ⟨lim.keeps x.toInCall.keep, codeAny_func ?_⟩
  obtain ⟨t, ht, hq⟩ := hbody cdv A outer s H vs Q E (hr.deeper _) hgd hsp
  have I : Inv (cxOf CX0 P w K mg base N qual (defScope st) f cdv A outer s H E) [] (start N vs) H s1 := inv_start S hr.hd e0 hlen r x
  refine wpAny_mono (ht.nox.run [] s1 (start N vs) H _ I hq) (fun fl s' hs => ?_) fun e s' hs => hs
  cases fl with
  | ret u =>
    obtain ⟨v, σ', H', J, rv, q⟩ := hs
    exact ⟨v, H', J.os, J.bare, J.base, J.hok, rv, q⟩
  | next =>
    obtain ⟨σ', H', J, q⟩ := hs
    exact ⟨V.non, H', J.os, J.bare, J.base, J.hok, rfl, q⟩
  | brk => exact hs.elim fun _ z => z.elim fun _ z => z.2.elim
  | cont => exact hs.elim fun _ z => z.elim fun _ z => z.2.elim

section
variable {X : Cx} {x : Str} {p pos : Pos} {e : Expr} {es : List Expr} {t : TA}
theorem run_fnG {pins : List (Addr × Obj)} {σ : St} {H : Hp} {s : Shared} {Q : VK} {us : List Value} {vs : List V} (F : FnG X.prog X.w X.K X.mg X.base k f fd ps sp) (hr : Room k X.A) (hgd : X.A.guards = some []) (hb : Binds X.K fd ps [])
    (I : Inv X pins σ H s) (r : Vals vs us) (h : sp vs H Q E0) : wpAny (model X.prog X.w) X.A (call (.ref f) us) (EP X pins σ Q) X.xe s := by
  have hl : (us ++ []).length = ps.length := by rw [List.append_nil, ← r.length]; exact F.len _ _ _ _ h
  have hbt := hb s us I.kIn hl
  rw [List.append_nil] at hbt
  refine wpAny_call (codeAny_mono (F.run X.A X.stack s H ⟨us, []⟩ us vs Q E0 hr hgd I.env0 hbt r h) fun rr s' hq => ?_)
  cases rr with
  | error e => exact False.elim hq
  | ok fl =>
    cases fl with
    | ret u => exact I.after hq
    | _ => exact False.elim hq
theorem pe_callG (F : FnG X.prog X.w X.K X.mg X.base k f fd ps sp) (hr : Room k X.A) (hgd : X.A.guards = some []) (hg : Gl X x) (hm : X.mg x = some (.ref f)) (hk : PySem.W.keepIn X.K (.ref f) = true) (hb : Binds X.K fd ps [])
    (ha : PA X (e :: es) t) (hdb : (x == ("__debug__" : Str)) = false) (he : starEach (e :: es) X.env = (false, eval e X.env) :: starEach es X.env) (hpl : (backTo pos (starEach es X.env)).any (·.1) = false) :
    PE X (.Call (.Name x p) (e :: es) [] pos) (tCall sp [] E0 t) := by
  refine ⟨fun pins s σ H Q I h => ?_⟩
  refine wpAny_Call_Name_kw (ld_glob I hg hm ?_ hdb)
  refine PySem.W.callWith_K (h₀ := X.base) I.ok.mod.kin hk (thn (ha.run pos pins s σ H _ I h) fun us s1 ⟨vs, H1, I1, r, q⟩ => ⟨I1.kIn, ?_⟩) he hpl
  replace q : sp (vs ++ []) H1 Q E0 := q
  rw [List.append_nil] at q
  exact run_fnG F hr hgd hb I1 r q
theorem pe_callG0 (F : FnG X.prog X.w X.K X.mg X.base k f fd ps sp) (hr : Room k X.A) (hgd : X.A.guards = some []) (hg : Gl X x) (hm : X.mg x = some (.ref f)) (hk : PySem.W.keepIn X.K (.ref f) = true) (hb : Binds X.K fd ps [])
    (hdb : (x == ("__debug__" : Str)) = false) : PE X (.Call (.Name x p) [] [] pos) (tCall sp [] E0 tNil) := by
  refine ⟨fun pins s σ H Q I h => ?_⟩
  refine wpAny_Call_Name_kw (ld_glob I hg hm ?_ hdb)
  exact PySem.W.callWith_K0 I.kIn hk (run_fnG (us := []) F hr hgd hb I .nil h)
/-! a new instance of a class -/
variable {C : Addr}
theorem make_guards {A : Around} {us : List Value} {kw : List (Str × Value)} : (A.under (.builtin "type.__call__" ⟨.ref C :: us, kw⟩)).guards = A.guards := by
  first | rfl | simp [Around.under, Code.weight, Code.isCreation, Code.isGuard, Code.isCaller, Code.frames, Code.isFrame, guardIds]
theorem run_makeG {pins : List (Addr × Obj)} {σ : St} {H : Hp} {s : Shared} {Q : VK} {us : List Value} {vs : List V} (M : Mk X.K C f) (F : FnG X.prog X.w X.K X.mg X.base k f fd ps sp) (hr : Room (k + 1) X.A) (hgd : X.A.guards = some []) (hb : Binds X.K fd ps [])
    (I : Inv X pins σ H s) (r : Vals vs us)
    (h : ∀ x dx, H x = none → H dx = none → dx ≠ x → sp (.ref x :: vs) (upd (upd H dx (.own x)) x (.ins C dx [])) (fun v H2 => v = .non ∧ Q (.ref x) H2) E0) :
    wpAny (model X.prog X.w) X.A (call (.ref C) us) (EP X pins σ Q) X.xe s := by
  have hq := h (s.heap.objs.size + 1) s.heap.objs.size (I.hok.fresh (Nat.le_succ _)) (I.hok.fresh (Nat.le_refl _)) (Nat.ne_of_lt (Nat.lt_succ_self _))
  have I2 := Inv.made (C := C) I
  have r2 : Vals (V.ref (s.heap.objs.size + 1) :: vs) (Value.ref (s.heap.objs.size + 1) :: us) := .cons rfl r
  have hl : (Value.ref (s.heap.objs.size + 1) :: us ++ []).length = ps.length := by
    have e := r2.length
    rw [F.len _ _ _ _ hq] at e
    rw [List.append_nil]
    exact e.symm
  have hbt := hb { s with heap := (s.heap.push PySem.W.emptyDict).push (PySem.W.instObj C s.heap.objs.size) } (Value.ref (s.heap.objs.size + 1) :: us) I2.kIn hl
  rw [List.append_nil] at hbt
  refine wpAny_call (make_map (f := f) I.kIn M.makes M.init (beq_iff_eq.mp M.fn) (codeAny_mono (F.run _ X.stack _ _ ⟨Value.ref (s.heap.objs.size + 1) :: us, []⟩ (Value.ref (s.heap.objs.size + 1) :: us) _ _ E0 (hr.make C us []) (make_guards.trans hgd)
    (I2.env0.make C us []) hbt r2 hq) fun r s' hq' => ?_))
  cases r with
  | error e => exact False.elim hq'
  | ok fl =>
    cases fl with
    | ret u =>
      obtain ⟨v, H', I3, rv, ev, q3⟩ := I2.after hq'
      subst ev
      exact ⟨rv, ⟨V.ref (s.heap.objs.size + 1), H', I3, rfl, q3⟩⟩
    | next => exact False.elim hq'
    | brk => exact False.elim hq'
    | cont => exact False.elim hq'
noncomputable def tMakeG (C : Addr) (sp : Sp) (t : TA) : TE := fun σ H Q => t σ H fun vs H1 => ∀ x dx, H1 x = none → H1 dx = none → dx ≠ x → sp (.ref x :: vs) (upd (upd H1 dx (.own x)) x (.ins C dx [])) (fun v H2 => v = .non ∧ Q (.ref x) H2) E0
theorem pe_makeG (M : Mk X.K C f) (F : FnG X.prog X.w X.K X.mg X.base k f fd ps sp) (hr : Room (k + 1) X.A) (hgd : X.A.guards = some []) (hg : Gl X x) (hm : X.mg x = some (.ref C)) (hb : Binds X.K fd ps [])
    (ha : PA X (e :: es) t) (hdb : (x == ("__debug__" : Str)) = false) (he : starEach (e :: es) X.env = (false, eval e X.env) :: starEach es X.env) (hpl : (backTo pos (starEach es X.env)).any (·.1) = false) :
    PE X (.Call (.Name x p) (e :: es) [] pos) (tMakeG C sp t) := by
  refine ⟨fun pins s σ H Q I h => ?_⟩
  refine wpAny_Call_Name_kw (ld_glob I hg hm ?_ hdb)
  refine PySem.W.callWith_K (h₀ := X.base) I.ok.mod.kin M.kp (thn (ha.run pos pins s σ H _ I h) fun us s1 ⟨vs, H1, I1, r, q⟩ => ⟨I1.kIn, ?_⟩) he hpl
  exact run_makeG M F hr hgd hb I1 r q
end
end Ev
/-! Built-in functions by values. -/
namespace Ev
open PySem PySem.Spec L2
variable {K : Mx} {F F' G H : Hp} {θ θ' : List Addr} {s : Sta} {σ : St}

inductive RpHs (K : Mx) (F : Hp) (θ : List Addr) (H : Hp) : List Tr → List V → Prop
  | nil : RpHs K F θ H [] []
  | cons {t : Tr} {l : List Tr} {v : V} {vs : List V} : RpH K F θ H t v → RpHs K F θ H l vs → RpHs K F θ H (t :: l) (v :: vs)
noncomputable def rBi (K : Mx) (ts : List Tr) (t : Tr) : List V → Hp → VK → Prop := fun vs H Q => ∃ F G θ s σ, Rel K F G θ s σ H ∧ RpHs K F θ H ts vs ∧ Fin K F G θ s σ t Q

theorem seqH (hF : FLe F H) {x : Tr} {l : List Tr} {v : V} (h : seqT x = some l) (r : RpH K F θ H x v) : ∃ a xs, v = .ref a ∧ (SqL K H a xs ∨ SqT K H a xs) ∧ Rps K F θ l xs := by
  cases x with
  | tup m => cases h; obtain ⟨a, xs, rfl, q, r, _⟩ := tupH r hF; exact ⟨a, xs, rfl, .inr q, r⟩
  | lst m => cases h; obtain ⟨a, xs, rfl, q, r⟩ := r; exact ⟨a, xs, rfl, .inl (SqL.of q), r⟩
  | flst m => cases h; obtain ⟨a, xs, rfl, q, r⟩ := flstH r hF; exact ⟨a, xs, rfl, .inl q, r⟩
  | _ => cases h
theorem intsOf_ok : ∀ {l : List Tr} {xs : List V} {is : List Int}, intsOf l = some is → Rps K F θ l xs → xs = is.map V.int
  | [], _, _, h, .nil => by simp only [intsOf] at h; cases h; rfl
  | t :: l, _, _, h, .cons r1 r2 => by
    cases t with
    | int i =>
      simp only [intsOf] at h
      cases e : intsOf l with
      | none => rw [e] at h; cases h
      | some is' =>
        rw [e] at h
        cases h
        cases r1
        rw [List.map_cons, intsOf_ok e r2]
    | _ => simp only [intsOf] at h; cases h
theorem boolsOf_ok : ∀ {l : List Tr} {xs : List V} {is : List Bool}, boolsOf l = some is → Rps K F θ l xs → xs = is.map V.bl
  | [], _, _, h, .nil => by simp only [boolsOf] at h; cases h; rfl
  | t :: l, _, _, h, .cons r1 r2 => by
    cases t with
    | bl i =>
      simp only [boolsOf] at h
      cases e : boolsOf l with
      | none => rw [e] at h; cases h
      | some is' =>
        rw [e] at h
        cases h
        cases r1
        rw [List.map_cons, boolsOf_ok e r2]
    | _ => simp only [boolsOf] at h; cases h

/-- repr of data -/
theorem call_reprD {X : Cx} (hg : X.A.guards = some []) (hu : X.A.units + 200 < cLine) : CallR X (.builtin "repr") (fun xs H Q => ∃ x d, xs = [x] ∧ Dp X.K H x d ∧ d.showable = true ∧ d.hasDict = false ∧ d.shown.length ≤ sizeLine ∧ d.depth ≤ 64 ∧ Q (.str d.shown) H) := by
  intro pins s σ H xs us Q I r h
  obtain ⟨x, d, rfl, hd, hs, hn, hz, h64, q⟩ := h
  obtain ⟨u, rfl, ru⟩ := vals1 r
  cases d with
  | none =>
    cases hd; cases ru
    exact PySem.P.repr_of_none ⟨.str _, H, I.tok _, ⟨_, rfl⟩, q⟩
  | bool b =>
    cases hd; cases ru
    exact PySem.P.repr_of_bool ⟨.str _, H, I.tok _, ⟨_, rfl⟩, by cases b <;> exact q⟩
  | int i =>
    cases hd; obtain ⟨t, rfl⟩ := ru
    exact PySem.P.repr_of_int (by simpa [PyData.showable] using hs) ⟨.str _, H, I.tok _, ⟨_, rfl⟩, q⟩
  | str z =>
    cases hd; obtain ⟨t, rfl⟩ := ru
    exact PySem.P.repr_of_str ⟨.str _, H, I.tok _, ⟨_, rfl⟩, q⟩ hz
  | dict kvs => cases hd
  | list ds =>
    obtain ⟨as, rd⟩ := Dp.reads I (.list ds) x u hd ru
    cases hd
    cases ru
    exact repr_of_reads' rd hs (PyData.noDict_hsm hn) hg (by omega) (fun _ _ e => e) (fun h' u tk hk => ⟨.str _, H, I.kept hk, ⟨_, rfl⟩, q⟩) hz
  | tuple ds =>
    obtain ⟨as, rd⟩ := Dp.reads I (.tuple ds) x u hd ru
    cases hd
    cases ru
    exact repr_of_reads' rd hs (PyData.noDict_hsm hn) hg (by omega) (fun _ _ e => e) (fun h' u tk hk => ⟨.str _, H, I.kept hk, ⟨_, rfl⟩, q⟩) hz
mutual
theorem data_noDict : ∀ (t : Tr) (d : PyData), t.data = some d → d.hasDict = false
  | .non, d, e => by cases e; rfl
  | .bl b, d, e => by cases e; rfl
  | .int i, d, e => by cases e; rfl
  | .str x, d, e => by cases e; rfl
  | .tup l, d, e => by
    simp only [Tr.data] at e
    cases e2 : datas l with
    | none => rw [e2] at e; cases e
    | some ds => rw [e2] at e; cases e; simpa only [PyData.hasDict] using datas_noDict l ds e2
  | .lst l, d, e => by
    simp only [Tr.data] at e
    cases e2 : datas l with
    | none => rw [e2] at e; cases e
    | some ds => rw [e2] at e; cases e; simpa only [PyData.hasDict] using datas_noDict l ds e2
  | .flst l, d, e => by
    simp only [Tr.data] at e
    cases e2 : datas l with
    | none => rw [e2] at e; cases e
    | some ds => rw [e2] at e; cases e; simpa only [PyData.hasDict] using datas_noDict l ds e2
  | .dk _ _, d, e => by cases e
  | .dt _ _, d, e => by cases e
  | .dn _ _, d, e => by cases e
  | .ins _ _ _, d, e => by cases e
  | .ob n, d, e => by cases e
  | .bor n, d, e => by cases e
theorem datas_noDict : ∀ (l : List Tr) (ds : List PyData), datas l = some ds → PyData.hasDictAll ds = false
  | [], ds, e => by simp only [datas] at e; cases e; rfl
  | t :: l, ds, e => by
    simp only [datas] at e
    cases e1 : t.data with
    | none => rw [e1] at e; cases e
    | some d =>
      cases e2 : datas l with
      | none => rw [e1, e2] at e; cases e
      | some ds' =>
        rw [e1, e2] at e
        cases e
        simp only [PyData.hasDictAll, data_noDict t d e1, datas_noDict l ds' e2]
        rfl
end

/-- the built-in by its name and value -/
noncomputable def Bi.nm : Bi → Str
  | .len => "len" | .abs => "abs" | .int => "int" | .sum => "sum" | .max2 => "max" | .min2 => "min" | .listRg => "list" | .listOf => "list" | .tupOf => "tuple" | .all => "all" | .any => "any" | .repr => "repr"
  | .isInt => "isinstance" | .isBool => "isinstance" | .isStr => "isinstance" | .isTup => "isinstance"
  | .strOf => "str" | .minOf => "min" | .maxOf => "max" | .sorted => "sorted"
noncomputable def Bi.fnId : Bi → Option String
  | .len => some "len" | .abs => some "abs" | .sum => some "sum" | .max2 => some "max" | .min2 => some "min" | .all => some "all" | .any => some "any" | .repr => some "repr" | .minOf => some "min" | .maxOf => some "max" | .sorted => some "sorted"
  | _ => none
noncomputable def Bi.tyId : Bi → Option String
  | .int => some "int" | .listOf => some "list" | .tupOf => some "tuple" | .strOf => some "str"
  | _ => none
theorem fn_boot {b : Bi} {id : String} (h : b.fnId = some id) : bootBuiltins b.nm = some (.builtin id) := by
  cases b <;> cases h <;> decide +kernel
theorem ty_boot {b : Bi} {id : String} (h : b.tyId = some id) : bootBuiltins b.nm = some (.type id) := by
  cases b <;> cases h <;> decide +kernel
theorem nm_ne (b : Bi) : b.nm ≠ "__name__" := by cases b <;> decide +kernel
theorem nm_db (b : Bi) : (b.nm == ("__debug__" : Str)) = false := by cases b <;> decide +kernel

/-- what sorting asks of data, and what it gives -/
theorem sort_facts {cl : List Str} {X : Cx} {pins : List (Addr × Obj)} {σ : St} {s : Shared} {F H : Hp} {θ : List Addr} {xs : List V} {l : List Tr} {its : List Value} (I : Inv X pins σ H s) (hF : FLe F H) (rv2 : Vals xs its) (r : Rps (MX cl X) F θ l xs) (ho : sortOk l = true) :
    PySem.W.EachIs (fun (v : Value) (b : Tr × V) => RelV b.2 v ∧ Rp (MX cl X) F θ b.1 b.2) its (l.zip xs) ∧ PySem.W.EachIs (fun (v : Value) (b : Tr × V) => ∃ as, Reads s.heap v (dat b.1) as) its (l.zip xs) ∧
    PySem.W.AllAlike ((l.zip xs).map fun b : Tr × V => dat b.1) ∧ PySem.W.Sortable ((l.zip xs).map fun b : Tr × V => dat b.1) ∧ (∀ b ∈ l.zip xs, (dat b.1).depth ≤ 64) ∧
    (∀ out : List Value, PySem.W.EachIs (fun (v : Value) (b : Tr × V) => RelV b.2 v ∧ Rp (MX cl X) F θ b.1 b.2) out ((l.zip xs).mergeSort (PySem.W.dataLe false fun b : Tr × V => dat b.1)) → ∃ ys, Rps (MX cl X) F θ (l.mergeSort (PySem.W.dataLe false dat)) ys ∧ Vals ys out) := by
  unfold sortOk at ho
  simp only [Bool.and_eq_true, Bool.or_eq_true] at ho
  obtain ⟨⟨h1, h2⟩, h3⟩ := ho
  -- pairs of trees and values
  have pair : ∀ {l : List Tr} {xs : List V} {us : List Value}, Rps (MX cl X) F θ l xs → Vals xs us → PySem.W.EachIs (fun (v : Value) (b : Tr × V) => RelV b.2 v ∧ Rp (MX cl X) F θ b.1 b.2) us (l.zip xs) := by
    intro l xs us r v
    induction v generalizing l with
    | nil => cases r; exact .nil
    | cons h1 t ih =>
      cases r with
      | cons r1 r2 => exact .cons ⟨h1, r1⟩ (ih r2)
  have E := pair r rv2
  have zf : ∀ {l : List Tr} {xs : List V}, xs.length = l.length → (l.zip xs).map (·.1) = l := by
    intro l xs e
    exact List.map_fst_zip (by omega)
  have zf1 := zf r.length
  have em : (l.zip xs).map (fun b : Tr × V => dat b.1) = l.map dat := by
    conv => rhs; rw [← zf1, List.map_map]
    rfl
  have dOf : ∀ t ∈ l, t.data = some (dat t) ∧ (dat t).depth ≤ 64 := fun t ht => by
    have := List.all_eq_true.mp h1 t ht
    simp only [Bool.and_eq_true, decide_eq_true_eq] at this
    obtain ⟨d, hd⟩ := Option.isSome_iff_exists.mp this.1
    refine ⟨?_, this.2⟩
    unfold dat
    rw [hd]
    rfl
  refine ⟨E, ?_, ?_, ?_, fun b hb => (dOf b.1 (List.of_mem_zip hb).1).2, fun out eo => ?_⟩
  · have go : ∀ {us : List Value} {bs : List (Tr × V)}, PySem.W.EachIs (fun (v : Value) (b : Tr × V) => RelV b.2 v ∧ Rp (MX cl X) F θ b.1 b.2) us bs → (∀ b ∈ bs, b.1 ∈ l) → PySem.W.EachIs (fun (v : Value) (b : Tr × V) => ∃ as, Reads s.heap v (dat b.1) as) us bs := by
      intro us bs e hb
      induction e with
      | nil => exact .nil
      | @cons v b vs bs h t ih =>
        refine .cons ?_ (ih fun b' hb' => hb b' (by simp [hb']))
        obtain ⟨hd, _⟩ := dOf b.1 (hb b (by simp))
        exact Dp.reads I (dat b.1) b.2 v (dp_of hF b.1 b.2 (dat b.1) hd (RpH.of hF h.2)) h.1
    exact go E fun b hb => (List.of_mem_zip hb).1
  · rw [em]
    intro d hd d' hd'
    exact List.all_eq_true.mp (List.all_eq_true.mp h2 d hd) d' hd'
  · rw [em]
    rcases h3 with h3 | h3
    · refine .inl fun d hd => ?_
      have := List.all_eq_true.mp h3 d hd
      unfold isTup1 at this
      split at this
      · exact ⟨_, _, rfl⟩
      · cases this
    · refine .inr fun d hd => ?_
      have := List.all_eq_true.mp h3 d hd
      unfold notTupN at this
      split at this
      · cases this
      · cases this
      · rename_i g1 g2
        exact ⟨fun e => g2 e, fun ys e => g1 ys e⟩
  · have ms : ((l.zip xs).mergeSort (PySem.W.dataLe false fun b : Tr × V => dat b.1)).map (·.1) = l.mergeSort (PySem.W.dataLe false dat) := by
      have e9 := List.map_mergeSort (r := PySem.W.dataLe false fun b : Tr × V => dat b.1) (s := PySem.W.dataLe false dat) (f := fun b : Tr × V => b.1) (l := l.zip xs) (fun _ _ _ _ => rfl)
      rw [e9, zf1]
    have rp : ∀ {us : List Value} {bs : List (Tr × V)}, PySem.W.EachIs (fun (v : Value) (b : Tr × V) => RelV b.2 v ∧ Rp (MX cl X) F θ b.1 b.2) us bs → Rps (MX cl X) F θ (bs.map (·.1)) (bs.map (·.2)) ∧ Vals (bs.map (·.2)) us := by
      intro us bs e
      induction e with
      | nil => exact ⟨.nil, .nil⟩
      | cons h t ih => exact ⟨.cons h.2 ih.1, .cons h.1 ih.2⟩
    obtain ⟨q1, q2⟩ := rp eo
    rw [ms] at q1
    exact ⟨_, q1, q2⟩
/-- sorted(xs) of data -/
theorem cr_sortedD {cl : List Str} {X : Cx} {F : Hp} {θ : List Addr} (hu : X.A.units + 200 < cLine) : CallR X (.builtin "sorted") (fun vs H Q => ∃ a xs l, vs = [V.ref a] ∧ SqL X.K H a xs ∧ FLe F H ∧ Rps (MX cl X) F θ l xs ∧ sortOk l = true ∧
    ∀ p ys, H p = none → Rps (MX cl X) F θ (l.mergeSort (PySem.W.dataLe false dat)) ys → Q (.ref p) (upd H p (.lst ys))) := by
  intro pins s σ H vs us Q I rv ⟨a, xs, l, e, hs, hF, r, ho, q⟩
  subst e
  obtain ⟨its, rv2, hl, hz⟩ := I.list hs
  rw [Vals.ref1 rv]
  have hlen : l.length ≤ sizeLine := by rw [← r.length]; exact hz
  obtain ⟨E, er, f1, f2, f3, f4⟩ := sort_facts I hF rv2 r ho
  refine PySem.W.sorted_data (enc := fun b : Tr × V => dat b.1) (bs := l.zip xs) hl.isList E er f1 f2 (by rw [List.length_zip, r.length]; omega) (fun b hb => ?_) fun out _ eo => ?_
  · have := f3 b hb
    omega
  · obtain ⟨ys, q1, q2⟩ := f4 _ eo
    have hp : H (s.heap.objs.size + 1) = none := I.hok.fresh (Nat.le_succ _)
    refine ⟨.ref (s.heap.objs.size + 1), _, ?_, rfl, q _ _ hp q1⟩
    obtain ⟨n, hn⟩ := PyProof.Rows.sortedAll_at s.heap its out.toArray
    refine I.laid (t' := s.toks) (fun _ _ => PyProof.Rows.sortedAll_old) (Nat.le_succ _) ⟨?_, out, n, q2, hn⟩
    rw [q1.length, List.length_mergeSort]
    exact hlen
theorem keyTr_rp {K : Mx} {F : Hp} {θ : List Addr} : ∀ k : Key, Rp K F θ (keyTr k) (kV k)
  | .inl i => .int i
  | .inr x => .str x
theorem keysTr_rp {K : Mx} {F : Hp} {θ : List Addr} : ∀ ks : List Key, Rps K F θ (ks.map keyTr) (ks.map kV)
  | [] => .nil
  | k :: ks => .cons (keyTr_rp k) (keysTr_rp ks)
theorem keyTups_rp {K : Mx} {F : Hp} {θ : List Addr} : ∀ {kvs : List (List Key × Addr × V)}, (∀ p ∈ kvs, SqT K.K F p.2.1 (p.1.map kV)) → Rps K F θ ((kvs.map (·.1)).map keyTup) (kvs.map fun p => V.ref p.2.1)
  | [], _ => .nil
  | p :: kvs, h => .cons (.tup (h p (by simp)) (keysTr_rp p.1)) (keyTups_rp fun q hq => h q (by simp [hq]))
theorem keyRefs {kvs : List (List Key × Addr × V)} {xs : List (List Key × Addr × Value)} (rel : KD kvs xs) : Vals (kvs.map fun p => V.ref p.2.1) (xs.map fun x => Value.ref x.2.1) := by
  induction rel with
  | nil => exact .nil
  | cons h t ih => exact .cons (show Value.ref _ = Value.ref _ by rw [h.2.1]) ih
/-- sorted(d), the keys tuples -/
theorem cr_sortedDt {cl : List Str} {X : Cx} {F : Hp} {θ : List Addr} (hc : X.calm = true) (hu : X.A.units + 200 < cLine) : CallR X (.builtin "sorted") (fun vs H Q => ∃ a kvs, vs = [V.ref a] ∧ H a = some (dtO X.prog X.w a kvs) ∧ FLe F H ∧ (∀ p ∈ kvs, SqT X.K F p.2.1 (p.1.map kV)) ∧ sortOk ((kvs.map (·.1)).map keyTup) = true ∧
    ∀ p ys, H p = none → Rps (MX cl X) F θ (((kvs.map (·.1)).map keyTup).mergeSort (PySem.W.dataLe false dat)) ys → Q (.ref p) (upd H p (.lst ys))) := by
  intro pins s σ H vs us Q I rv ⟨a, kvs, e, ed, hF, hk, ho, q⟩
  subst e
  rw [Vals.ref1 rv]
  obtain ⟨z, hd, xs, rel, dd⟩ := dtAt I ed fun p hp => hF.tup (hk p hp)
  obtain ⟨es, ep, raw, esz, hes⟩ := dd.raw
  have hln : xs.length = kvs.length := (Paired.length rel).symm
  have r : Rps (MX cl X) F θ ((kvs.map (·.1)).map keyTup) (kvs.map fun p => V.ref p.2.1) := keyTups_rp hk
  refine Calls.call_function_entry PyProof.Rows.kind_sorted PyProof.Rows.plain_sorted PyProof.Rows.entry_sorted (PyProof.Rows.args_sorted1 _) ?_
  unfold Builtin.«sorted»
  refine wpAny_bind (m := checkCount "sorted" 1 1 _) (wpAny_pure (wpAny_bind (PySem.W.kdu_collect (A := X.A.in1) (KdlSrc.rawDict hd) (I.ok.hd hc) raw (by omega) fun h' tk acc hkp hacc => ?_)))
  have eacc : acc.toList = xs.map fun x => Value.ref x.2.1 := by
    refine List.ext_getElem? fun j => ?_
    have hsz : acc.size = xs.length := by rw [← esz]; exact hacc.1
    by_cases hj : j < xs.length
    · have hj2 : j < acc.size := by omega
      have e1 : acc[j]? = some acc[j] := Array.getElem?_eq_getElem hj2
      obtain ⟨hi, e2⟩ := hacc.2 j _ e1
      obtain ⟨y, e3, e4, _⟩ := hes j hi
      rw [Array.getElem?_toList, e1, e2, e4, List.getElem?_map, e3]
      rfl
    · rw [List.getElem?_eq_none (by rw [Array.length_toList]; omega), List.getElem?_eq_none (by rw [List.length_map]; omega)]
  have rv2 : Vals (kvs.map fun p => V.ref p.2.1) acc.toList := by rw [eacc]; exact keyRefs rel
  obtain ⟨E, er, f1, f2, f3, f4⟩ := sort_facts I hF rv2 r ho
  generalize hl : (kvs.map (·.1)).map keyTup = l at *
  generalize hx : (kvs.map fun p => V.ref p.2.1) = ws at *
  have hal : acc.toList.length ≤ sizeLine := by rw [eacc, List.length_map]; omega
  have hll : (l.zip ws).length ≤ sizeLine := by
    rw [List.length_zip, ← hx, ← hl]; simp; omega
  refine wpAny_bind (wpAny_newList ?_ hal)
  have at1 : (h'.push (PyProof.Rows.seqObj "list" acc.toList.toArray 0)).get? h'.objs.size = some (PyProof.Rows.seqObj "list" acc.toList.toArray 0) := Heap.get?_push_size _ rfl
  have old1 : ∀ b o, s.heap.get? b = some o → b ≠ h'.objs.size ∧ (h'.push (PyProof.Rows.seqObj "list" acc.toList.toArray 0)).get? b = some o := fun b o e =>
    ⟨Nat.ne_of_lt (Heap.lt_size (hkp b o e)), Heap.get?_push_of_some _ (hkp b o e)⟩
  have er' : PySem.W.EachIs (fun (v : Value) (b : Tr × V) => ∃ as, Reads (PySem.W.sortingHeap (h'.push (PyProof.Rows.seqObj "list" acc.toList.toArray 0)) h'.objs.size acc.toList) v (dat b.1) as) acc.toList (l.zip ws) :=
    er.mono fun _ _ ⟨as, r⟩ => ⟨as, PyProof.Rows.Reads.keeps (fun b o e => PySem.W.sortingHeap_old (old1 b o e).1 (old1 b o e).2) r⟩
  have S : PySem.W.SortsAt X.prog X.w X.A.in1.in1 { s with heap := PySem.W.sortingHeap (h'.push (PyProof.Rows.seqObj "list" acc.toList.toArray 0)) h'.objs.size acc.toList, toks := tk } (PySem.W.dataKind (PySem.W.sortingHeap (h'.push (PyProof.Rows.seqObj "list" acc.toList.toArray 0)) h'.objs.size acc.toList) ((l.zip ws).map fun b : Tr × V => dat b.1)) acc.toList := by
    refine PySem.W.SortsAt.data (PySem.W.each_map (fun b : Tr × V => dat b.1) er') f1 f2 ?_
    intro d hd
    obtain ⟨b, hb, rfl⟩ := List.mem_map.mp hd
    have h9 := f3 b hb
    show X.A.in1.in1.units + (dat b.1).depth < cLine
    have h8 : X.A.in1.in1.units = X.A.units + 2 := rfl
    omega
  refine wpAny_bind (wpAny_holding (PyProof.Rows.wpAny_call_entry_kw PyProof.Rows.slot_list_sort ⟨_, at1, rfl⟩ PyProof.Rows.entry_list_sort ?_ (PyProof.Rows.args_list_sort _)))
  refine PySem.W.list_sort_vals (s := { s with heap := h'.push (PyProof.Rows.seqObj "list" acc.toList.toArray 0), toks := tk }) at1 S hal ⟨.none, rfl, wpAny_pure ⟨_, rfl, ?_⟩⟩
  have eo := PySem.W.sortVals_data (R := fun (v : Value) (b : Tr × V) => RelV b.2 v ∧ Rp (MX cl X) F θ b.1 b.2) (enc := fun b : Tr × V => dat b.1) false E er' f1
  obtain ⟨ys, q1, q2⟩ := f4 _ eo
  have hp : H h'.objs.size = none := (I.hok.kept hkp).fresh (Nat.le_refl _)
  refine ⟨.ref h'.objs.size, _, ?_, rfl, q _ _ hp q1⟩
  obtain ⟨n, hn⟩ := PyProof.Rows.sortedHeap_at (out := (PySem.W.sortVals (PySem.W.dataKind (PySem.W.sortingHeap (h'.push (PyProof.Rows.seqObj "list" acc.toList.toArray 0)) h'.objs.size acc.toList) ((l.zip ws).map fun b : Tr × V => dat b.1)) false acc.toList acc.toList).toArray) at1
  refine I.laidN (t' := tk) (fun b o e => ?_) ?_ hp ⟨?_, _, n, q2, hn⟩
  · rw [PyProof.Rows.sortedHeap_old (old1 b o e).1 (Heap.lt_size (old1 b o e).2)]
    exact (old1 b o e).2
  · cases e : s.heap.get? h'.objs.size with
    | none => rfl
    | some o => exact absurd (Heap.lt_size (hkp _ _ e)) (Nat.lt_irrefl _)
  · rw [q1.length, List.length_mergeSort, ← hl]
    simp
    exact z
theorem minI_mem : ∀ (is : List Int) (i : Int), minI i is ∈ i :: is ∧ ∀ j ∈ i :: is, minI i is ≤ j
  | [], i => ⟨by simp [minI], fun j hj => by simp at hj; subst hj; exact Int.le_refl _⟩
  | x :: is, i => by
    show minI (if x < i then x else i) is ∈ i :: x :: is ∧ ∀ j ∈ i :: x :: is, minI (if x < i then x else i) is ≤ j
    by_cases h : x < i
    · rw [if_pos h]
      obtain ⟨h1, h2⟩ := minI_mem is x
      refine ⟨List.mem_cons_of_mem _ h1, fun j hj => ?_⟩
      rcases List.mem_cons.mp hj with rfl | hj
      · have := h2 x (by simp); omega
      · exact h2 j hj
    · rw [if_neg h]
      obtain ⟨h1, h2⟩ := minI_mem is i
      refine ⟨?_, fun j hj => ?_⟩
      · rcases List.mem_cons.mp h1 with e | e
        · rw [e]; simp
        · exact List.mem_cons_of_mem _ (List.mem_cons_of_mem _ e)
      · rcases List.mem_cons.mp hj with rfl | hj
        · exact h2 _ (by simp)
        · rcases List.mem_cons.mp hj with rfl | hj
          · have := h2 i (by simp); omega
          · exact h2 j (by simp [hj])
theorem maxI_mem : ∀ (is : List Int) (i : Int), maxI i is ∈ i :: is ∧ ∀ j ∈ i :: is, j ≤ maxI i is
  | [], i => ⟨by simp [maxI], fun j hj => by simp at hj; subst hj; exact Int.le_refl _⟩
  | x :: is, i => by
    show maxI (if i < x then x else i) is ∈ i :: x :: is ∧ ∀ j ∈ i :: x :: is, j ≤ maxI (if i < x then x else i) is
    by_cases h : i < x
    · rw [if_pos h]
      obtain ⟨h1, h2⟩ := maxI_mem is x
      refine ⟨List.mem_cons_of_mem _ h1, fun j hj => ?_⟩
      rcases List.mem_cons.mp hj with rfl | hj
      · have := h2 x (by simp); omega
      · exact h2 j hj
    · rw [if_neg h]
      obtain ⟨h1, h2⟩ := maxI_mem is i
      refine ⟨?_, fun j hj => ?_⟩
      · rcases List.mem_cons.mp h1 with e | e
        · rw [e]; simp
        · exact List.mem_cons_of_mem _ (List.mem_cons_of_mem _ e)
      · rcases List.mem_cons.mp hj with rfl | hj
        · exact h2 _ (by simp)
        · rcases List.mem_cons.mp hj with rfl | hj
          · have := h2 i (by simp); omega
          · exact h2 j (by simp [hj])
theorem dkH {ks : List Key} {l : List Tr} {v : V} (r : RpH K F θ H (.dk ks l) v) : ∃ a kvs, v = .ref a ∧ H a = some (.dK kvs) ∧ kvs.map (·.1) = ks ∧ Rps K F θ l (kvs.map (·.2)) := r
theorem call_lenDK {X : Cx} : CallR X (.builtin "len") (fun xs H Q => ∃ a kvs, xs = [V.ref a] ∧ H a = some (.dK kvs) ∧ Q (.int kvs.length) H) := by
  intro pins s σ H xs us Q I r h
  obtain ⟨a, kvs, rfl, e, q⟩ := h
  obtain ⟨u, rfl, ru⟩ := vals1 r
  obtain rfl : u = Value.ref a := ru
  exact d_len I (.inl e) fun t s' I' => ⟨.int _, H, I', ⟨_, rfl⟩, q⟩
theorem call_lenDT {X : Cx} : CallR X (.builtin "len") (fun xs H Q => ∃ a kvs, xs = [V.ref a] ∧ H a = some (dtO X.prog X.w a kvs) ∧ (∀ p ∈ kvs, SqT X.K H p.2.1 (p.1.map kV)) ∧ Q (.int kvs.length) H) := by
  intro pins s σ H xs us Q I r h
  obtain ⟨a, kvs, rfl, e, hk, q⟩ := h
  obtain ⟨u, rfl, ru⟩ := vals1 r
  obtain rfl : u = Value.ref a := ru
  obtain ⟨z, hd, ys, rel, dd⟩ := dtAt I e hk
  have hl : kvs.length = ys.length := Paired.length rel
  refine call_len_dictH hd dd (by rw [← hl]; rw [sizeLine_eq] at z; omega) ?_
  rw [← hl]
  exact ⟨.int ((kvs.length : Nat) : Int), H, I.tok _, ⟨_, rfl⟩, q⟩
theorem biT_fn {cl : List Str} {X : Cx} {b : Bi} {ts : List Tr} {t : Tr} {id : String} (hc : X.calm = true) (hg : X.A.guards = some []) (hu : X.A.units + 200 < cLine) (hid : b.fnId = some id) (h : biT b ts = some t) : CallR X (.builtin id) (rBi (MX cl X) ts t) := by
  intro pins s0 σ0 H vs us Q I rv ⟨F, G, θ, s, σ, R, rs, k⟩
  have hF := R.m.fle
  unfold biT at h
  split at h <;> cases hid
  all_goals split at h
  all_goals first | (cases h; done) | skip
  · cases h
    cases rs with
    | cons r1 r2 => cases r2; obtain ⟨a, xs, rfl, q, r, _⟩ := tupH r1 hF; exact call_len_seq pins s0 σ0 H _ _ Q I rv ⟨a, xs, rfl, .inr q, k.same R (by rw [r.length]; exact .int _)⟩
  · cases h
    cases rs with
    | cons r1 r2 => cases r2; obtain ⟨a, xs, rfl, q, r⟩ := r1; exact call_len_seq pins s0 σ0 H _ _ Q I rv ⟨a, xs, rfl, .inl (SqL.of q), k.same R (by rw [r.length]; exact .int _)⟩
  · cases h
    cases rs with
    | cons r1 r2 => cases r2; obtain ⟨a, xs, rfl, q, r⟩ := flstH r1 hF; exact call_len_seq pins s0 σ0 H _ _ Q I rv ⟨a, xs, rfl, .inl q, k.same R (by rw [r.length]; exact .int _)⟩
  · split at h
    · cases h
      cases rs with
      | cons r1 r2 => cases r2; cases strH r1; exact call_len_str pins s0 σ0 H _ _ Q I rv ⟨_, rfl, by assumption, k.same R (.int _)⟩
    · cases h
  · cases h
    cases rs with
    | cons r1 r2 =>
      cases r2
      obtain ⟨a, kvs, rfl, e, e2, q⟩ := dkH r1
      subst e2
      exact call_lenDK pins s0 σ0 H _ _ Q I rv ⟨a, kvs, rfl, e, by rw [← List.length_map (f := (·.1))]; exact k.same R (.int _)⟩
  · cases h
    cases rs with
    | cons r1 r2 =>
      cases r2
      obtain ⟨a, kvs, rfl, e1, e2, e3, e4⟩ := r1
      subst e2
      exact call_lenDT pins s0 σ0 H _ _ Q I rv ⟨a, kvs, rfl, e1, fun p hp => hF.tup (e4 p hp), by rw [← List.length_map (f := (·.1))]; exact k.same R (.int _)⟩
  · split at h
    · rename_i i is h9
      cases h
      cases rs with
      | cons r1 r2 =>
        cases r2
        obtain ⟨a, xs, rfl, q, r, _⟩ := tupH r1 hF
        obtain rfl := intsOf_ok h9 r
        exact cr_minT hc (by omega) pins s0 σ0 H _ _ Q I rv ⟨a, i, is, rfl, q, k.same R (.int _)⟩
    · cases h
  · split at h
    · rename_i i is h9
      cases h
      cases rs with
      | cons r1 r2 =>
        cases r2
        obtain ⟨a, xs, rfl, q, r⟩ := r1
        obtain rfl := intsOf_ok h9 r
        refine cr_min hc pins s0 σ0 H _ _ Q I rv ⟨a, i :: is, rfl, SqL.of q, by simp, fun m h1 h2 => ?_⟩
        obtain ⟨g1, g2⟩ := minI_mem is i
        have e : m = minI i is := Int.le_antisymm (h2 _ g1) (g2 _ h1)
        rw [e]
        exact k.same R (.int _)
    · cases h
  · split at h
    · rename_i i is h9
      cases h
      cases rs with
      | cons r1 r2 =>
        cases r2
        obtain ⟨a, xs, rfl, q, r⟩ := r1
        obtain rfl := intsOf_ok h9 r
        refine cr_max hc pins s0 σ0 H _ _ Q I rv ⟨a, i :: is, rfl, SqL.of q, by simp, fun m h1 h2 => ?_⟩
        obtain ⟨g1, g2⟩ := maxI_mem is i
        have e : m = maxI i is := Int.le_antisymm (g2 _ h1) (h2 _ g1)
        rw [e]
        exact k.same R (.int _)
    · cases h
  · split at h
    · rename_i i is h9
      cases h
      cases rs with
      | cons r1 r2 =>
        cases r2
        obtain ⟨a, xs, rfl, q, r, _⟩ := tupH r1 hF
        obtain rfl := intsOf_ok h9 r
        exact cr_maxT hc (by omega) pins s0 σ0 H _ _ Q I rv ⟨a, i, is, rfl, q, k.same R (.int _)⟩
    · cases h
  · unfold sortT at h
    split at h
    · rename_i ho
      cases h
      cases rs with
      | cons r1 r2 =>
        cases r2
        obtain ⟨a, xs, rfl, q, r⟩ := r1
        exact cr_sortedD (cl := cl) (F := F) (θ := θ) hu pins s0 σ0 H _ _ Q I rv ⟨a, xs, _, rfl, SqL.of q, hF, r, ho, fun p ys np ry => k.lst R np ry⟩
    · cases h
  · unfold sortT at h
    split at h
    · rename_i ho
      cases h
      cases rs with
      | cons r1 r2 =>
        cases r2
        obtain ⟨a, xs, rfl, q, r⟩ := flstH r1 hF
        exact cr_sortedD (cl := cl) (F := F) (θ := θ) hu pins s0 σ0 H _ _ Q I rv ⟨a, xs, _, rfl, q, hF, r, ho, fun p ys np ry => k.lst R np ry⟩
    · cases h
  · unfold sortT at h
    split at h
    · rename_i ho
      cases h
      cases rs with
      | cons r1 r2 =>
        cases r2
        obtain ⟨a, kvs, rfl, e1, e2, e3, e4⟩ := r1
        subst e2
        exact cr_sortedDt (cl := cl) (F := F) (θ := θ) hc hu pins s0 σ0 H _ _ Q I rv ⟨a, kvs, rfl, e1, hF, e4, ho, fun p ys np ry => k.lst R np ry⟩
    · cases h
  · cases h
    cases rs with
    | cons r1 r2 => cases r2; cases intH r1; exact call_abs pins s0 σ0 H _ _ Q I rv ⟨_, rfl, k.same R (.int _)⟩
  · obtain ⟨is, h9, rfl⟩ := map_some h
    cases rs with
    | cons r1 r2 =>
      cases r2
      obtain ⟨a, xs, rfl, q, r⟩ := r1
      obtain rfl := intsOf_ok h9 r
      exact cr_sum hc pins s0 σ0 H _ _ Q I rv ⟨a, is, rfl, SqL.of q, k.same R (.int _)⟩
  · obtain ⟨is, h9, rfl⟩ := map_some h
    cases rs with
    | cons r1 r2 =>
      cases r2
      obtain ⟨a, xs, rfl, q, r⟩ := flstH r1 hF
      obtain rfl := intsOf_ok h9 r
      exact cr_sum hc pins s0 σ0 H _ _ Q I rv ⟨a, is, rfl, q, k.same R (.int _)⟩
  · cases h
    cases rs with
    | cons r1 r2 =>
      cases r2 with
      | cons r2 r3 =>
        cases r3; cases intH r1; cases intH r2
        exact call_max2 hc pins s0 σ0 H _ _ Q I rv ⟨_, _, rfl, k.same R (.int _)⟩
  · cases h
    cases rs with
    | cons r1 r2 =>
      cases r2 with
      | cons r2 r3 =>
        cases r3; cases intH r1; cases intH r2
        exact call_min2 hc pins s0 σ0 H _ _ Q I rv ⟨_, _, rfl, k.same R (.int _)⟩
  · obtain ⟨is, h9, rfl⟩ := map_some h
    cases rs with
    | cons r1 r2 =>
      cases r2
      obtain ⟨a, xs, rfl, q, r⟩ := r1
      obtain rfl := boolsOf_ok h9 r
      exact cr_all hc pins s0 σ0 H _ _ Q I rv ⟨a, is, rfl, SqL.of q, k.same R (.bl _)⟩
  · obtain ⟨is, h9, rfl⟩ := map_some h
    cases rs with
    | cons r1 r2 =>
      cases r2
      obtain ⟨a, xs, rfl, q, r⟩ := r1
      obtain rfl := boolsOf_ok h9 r
      exact cr_any hc pins s0 σ0 H _ _ Q I rv ⟨a, is, rfl, SqL.of q, k.same R (.bl _)⟩
  · unfold reprT at h
    split at h
    · rename_i d hd
      split at h
      · rename_i hh
        simp only [Bool.and_eq_true, decide_eq_true_eq] at hh
        cases h
        cases rs with
        | cons r1 r2 =>
          cases r2
          exact call_reprD hg hu pins s0 σ0 H _ _ Q I rv ⟨_, d, rfl, dp_of hF _ _ _ hd r1, hh.1.1, data_noDict _ _ hd, hh.1.2, hh.2, k.same R (.str _)⟩
      · cases h
    · cases h
theorem biT_ty {cl : List Str} {X : Cx} {b : Bi} {ts : List Tr} {t : Tr} {id : String} (hid : b.tyId = some id) (h : biT b ts = some t) : CallR X (.type id) (rBi (MX cl X) ts t) := by
  intro pins s0 σ0 H vs us Q I rv ⟨F, G, θ, s, σ, R, rs, k⟩
  have hF := R.m.fle
  unfold biT at h
  split at h <;> cases hid
  all_goals split at h
  all_goals first | (cases h; done) | skip
  · split at h
    · rename_i hz
      cases h
      cases rs with
      | cons r1 r2 => cases r2; cases intH r1; exact call_str_int pins s0 σ0 H _ _ Q I rv ⟨_, rfl, hz, k.same R (.str _)⟩
    · cases h
  · cases h
    cases rs with
    | cons r1 r2 => cases r2; cases strH r1; exact SkE.call_str_str pins s0 σ0 H _ _ Q I rv ⟨_, rfl, k.same R (.str _)⟩
  · cases h
    cases rs with
    | cons r1 r2 => cases r2; cases intH r1; exact call_int1 pins s0 σ0 H _ _ Q I rv (.inl ⟨_, rfl, k.same R (.int _)⟩)
  · cases h
    cases rs with
    | cons r1 r2 => cases r2; cases blH r1; exact call_int1 pins s0 σ0 H _ _ Q I rv (.inr ⟨_, rfl, k.same R (.int _)⟩)
  · split at h
    · rename_i n hn
      split at h
      · rename_i hz
        cases h
        cases rs with
        | cons r1 r2 => cases r2; cases strH r1; exact call_int_str pins s0 σ0 H _ _ Q I rv ⟨_, _, rfl, hn, hz, k.same R (.int _)⟩
      · cases h
    · cases h
  · cases h
    cases rs with
    | cons r1 r2 => cases r2; obtain ⟨a, xs, rfl, q, r, _⟩ := tupH r1 hF; exact call_list_of pins s0 σ0 H _ _ Q I rv ⟨a, xs, rfl, .inr q, fun l hl => k.lst R hl r⟩
  · cases h
    cases rs with
    | cons r1 r2 => cases r2; obtain ⟨a, xs, rfl, q, r⟩ := r1; exact call_list_of pins s0 σ0 H _ _ Q I rv ⟨a, xs, rfl, .inl (SqL.of q), fun l hl => k.lst R hl r⟩
  · cases h
    cases rs with
    | cons r1 r2 => cases r2; obtain ⟨a, xs, rfl, q, r⟩ := flstH r1 hF; exact call_list_of pins s0 σ0 H _ _ Q I rv ⟨a, xs, rfl, .inl q, fun l hl => k.lst R hl r⟩
  · cases h
    cases rs with
    | cons r1 r2 => cases r2; obtain ⟨a, xs, rfl, q, r, f⟩ := tupH r1 hF; exact call_tuple_of pins s0 σ0 H _ _ Q I rv ⟨a, xs, rfl, .inr ⟨q, k.same R (.tup f r)⟩⟩
  · cases h
    cases rs with
    | cons r1 r2 => cases r2; obtain ⟨a, xs, rfl, q, r⟩ := r1; exact call_tuple_of pins s0 σ0 H _ _ Q I rv ⟨a, xs, rfl, .inl ⟨SqL.of q, fun l hl => k.tup R hl r⟩⟩
  · cases h
    cases rs with
    | cons r1 r2 => cases r2; obtain ⟨a, xs, rfl, q, r⟩ := flstH r1 hF; exact call_tuple_of pins s0 σ0 H _ _ Q I rv ⟨a, xs, rfl, .inl ⟨q, fun l hl => k.tup R hl r⟩⟩
/-- isinstance(x, a built-in type) -/
noncomputable def Bi.isTy : Bi → Option String
  | .isInt => some "int" | .isBool => some "bool" | .isStr => some "str" | .isTup => some "tuple"
  | _ => none
theorem biT_is {cl : List Str} {X : Cx} {b : Bi} {x t : Tr} {id : String} (hid : b.isTy = some id) (h : biT b [x] = some t) : CallR X (.builtin "isinstance") (fun vs H Q => ∃ v, vs = [v, .ty id] ∧ rBi (MX cl X) [x] t [v] H Q) := by
  intro pins s0 σ0 H vs us Q I rv ⟨v, e, F, G, θ, s, σ, R, rs, k⟩
  subst e
  have hF := R.m.fle
  have ty : ∀ {a : Addr} {xs : List V}, SqT X.K H a xs → TyX X.K H (.ref a) (.type "tuple") := by
    intro a xs q
    rcases q with (q | ⟨o, q⟩) | ⟨o, its, n, q, c, _⟩
    · exact .base (.tup q)
    · exact .fTuple q
    · exact .kTuple q c
  cases rs with
  | cons r1 r2 =>
    cases r2
    have go : ∀ (tn : String) (bb : Bool), TyX X.K H v (.type tn) → PySem.W.kitOne X.K (.type tn) (.type id) = some bb → t = .bl bb → wpAny (model X.prog X.w) X.A (call (.builtin "isinstance") us) (EP X pins σ0 Q) X.xe s0 := by
      intro tn bb h1 h2 h3
      subst h3
      exact call_isi pins s0 σ0 H _ _ Q I rv ⟨v, .ty id, .type tn, .type id, bb, rfl, .ty id, h1, h2, k.same R (.bl _)⟩
    cases b <;> cases hid
    all_goals
      cases x with
      | non => cases h; cases nonH r1; exact go "NoneType" _ (.base .non) (kit_ty (by decide +kernel)) rfl
      | bl y => cases h; cases blH r1; exact go "bool" _ (.base (.bl _)) (kit_ty (by decide +kernel)) rfl
      | int y => cases h; cases intH r1; exact go "int" _ (.base (.int _)) (kit_ty (by decide +kernel)) rfl
      | str y => cases h; cases strH r1; exact go "str" _ (.base (.str _)) (kit_ty (by decide +kernel)) rfl
      | tup y => cases h; obtain ⟨a, xs, rfl, q, r, _⟩ := tupH r1 hF; exact go "tuple" _ (ty q) (kit_ty (by decide +kernel)) rfl
      | lst y => cases h; obtain ⟨a, xs, rfl, q, r⟩ := r1; exact go "list" _ (.base (.lst q)) (kit_ty (by decide +kernel)) rfl
      | flst y => cases h
      | dk y z => cases h; obtain ⟨a, kvs, rfl, e, _⟩ := dkH r1; exact go "dict" _ (.base (.dK e)) (kit_ty (by decide +kernel)) rfl
      | dt y z => cases h
      | dn y z => cases h
      | ins y z u => cases h
      | ob y => cases h
      | bor y => cases h
/-! methods of built-in things -/
theorem strsOf_ok : ∀ {l : List Tr} {xs : List V} {is : List Str}, strsOf l = some is → Rps K F θ l xs → xs = is.map V.str
  | [], _, _, h, .nil => by simp only [strsOf] at h; cases h; rfl
  | t :: l, _, _, h, .cons r1 r2 => by
    cases t with
    | str i =>
      simp only [strsOf] at h
      cases e : strsOf l with
      | none => rw [e] at h; cases h
      | some is' =>
        rw [e] at h
        cases h
        cases r1
        rw [List.map_cons, strsOf_ok e r2]
    | _ => simp only [strsOf] at h; cases h
theorem rps_strs : ∀ (ys : List Str), Rps K F θ (ys.map Tr.str) (ys.map V.str)
  | [] => .nil
  | y :: ys => .cons (.str y) (rps_strs ys)
noncomputable def rMt (K : Mx) (x : Tr) (ts : List Tr) (t : Tr) : V → List V → Hp → VK → Prop := fun v vs H Q => ∃ F G θ s σ, Rel K F G θ s σ H ∧ RpH K F θ H x v ∧ RpHs K F θ H ts vs ∧ Fin K F G θ s σ t Q
noncomputable def Mt.sid : Mt → Option String
  | .split => some "str.split" | .join => some "str.join" | .index => some "str.index" | .zfill => some "str.zfill"
  | .get => none
noncomputable def Mt.nm : Mt → Str
  | .split => "split" | .join => "join" | .index => "index" | .zfill => "zfill" | .get => "get"
theorem mtT_str {cl : List Str} {X : Cx} {m : Mt} {x : Tr} {ts : List Tr} {t : Tr} {id : String} (hid : m.sid = some id) (h : mtT m x ts = some t) : (∃ z, x = .str z) ∧ MtR X id (rMt (MX cl X) x ts t) := by
  unfold mtT at h
  split at h <;> first | (cases h; done) | cases hid
  · split at h
    · rename_i hc
      cases h
      refine ⟨⟨_, rfl⟩, ?_⟩
      intro pins s0 σ0 H xv xs v us Q I rx rs ⟨F, G, θ, s, σ, R, r1, r2, k⟩
      cases strH r1
      cases r2 with
      | cons r2 r3 =>
        cases r3; cases strH r2
        exact mt_split pins s0 σ0 H _ _ _ _ Q I rx rs ⟨_, _, rfl, rfl, hc.1, hc.2, fun p np => k.lst R np (rps_strs _)⟩
    · cases h
  · unfold joinT at h
    split at h
    · rename_i ys h9
      split at h
      · rename_i hc
        cases h
        refine ⟨⟨_, rfl⟩, ?_⟩
        intro pins s0 σ0 H xv xs v us Q I rx rs ⟨F, G, θ, s, σ, R, r1, r2, k⟩
        cases strH r1
        cases r2 with
        | cons r2 r3 =>
          cases r3
          obtain ⟨a, zs, rfl, q, r⟩ := r2
          obtain rfl := strsOf_ok h9 r
          exact mt_join pins s0 σ0 H _ _ _ _ Q I rx rs ⟨_, a, ys, rfl, rfl, .inl (SqL.of q), hc, k.same R (.str _)⟩
      · cases h
    · cases h
  · unfold joinT at h
    split at h
    · rename_i ys h9
      split at h
      · rename_i hc
        cases h
        refine ⟨⟨_, rfl⟩, ?_⟩
        intro pins s0 σ0 H xv xs v us Q I rx rs ⟨F, G, θ, s, σ, R, r1, r2, k⟩
        cases strH r1
        cases r2 with
        | cons r2 r3 =>
          cases r3
          obtain ⟨a, zs, rfl, q, r, _⟩ := tupH r2 R.m.fle
          obtain rfl := strsOf_ok h9 r
          exact mt_join pins s0 σ0 H _ _ _ _ Q I rx rs ⟨_, a, ys, rfl, rfl, .inr q, hc, k.same R (.str _)⟩
      · cases h
    · cases h
  · split at h
    · rename_i i r9 h9
      cases h
      refine ⟨⟨_, rfl⟩, ?_⟩
      intro pins s0 σ0 H xv xs v us Q I rx rs ⟨F, G, θ, s, σ, R, r1, r2, k⟩
      cases strH r1
      cases r2 with
      | cons r2 r3 =>
        cases r3; cases strH r2
        exact mt_sindex pins s0 σ0 H _ _ _ _ Q I rx rs ⟨_, _, i, r9, rfl, rfl, h9, k.same R (.int _)⟩
    · cases h
  · split at h
    · rename_i hc
      cases h
      refine ⟨⟨_, rfl⟩, ?_⟩
      intro pins s0 σ0 H xv xs v us Q I rx rs ⟨F, G, θ, s, σ, R, r1, r2, k⟩
      cases strH r1
      cases r2 with
      | cons r2 r3 =>
        cases r3; cases intH r2
        exact mt_zfill pins s0 σ0 H _ _ _ _ Q I rx rs ⟨_, _, rfl, rfl, hc, k.same R (.str _)⟩
    · cases h
theorem isDd_of {d : Tr} {v : V} (hF : FLe F H) (h : (∃ ks l, d = .dk ks l) ∨ (∃ ks l, d = .dt ks l) ∨ ∃ ks l, d = .dn ks l) (r : RpH K F θ H d v) : IsDd K.P K.w K v H := by
  rcases h with ⟨ks, l, rfl⟩ | ⟨ks, l, rfl⟩ | ⟨ks, l, rfl⟩
  · obtain ⟨a, kvs, rfl, e, _⟩ := r
    exact ⟨a, rfl, .inl ⟨kvs, e⟩⟩
  · obtain ⟨a, kvs, rfl, e, _, _, hk⟩ := r
    exact ⟨a, rfl, .inr (.inl ⟨kvs, e, fun p hp => hF.tup (hk p hp)⟩)⟩
  · obtain ⟨a, kvs, rfl, e, _, _, hk⟩ := r
    exact ⟨a, rfl, .inr (.inr ⟨kvs, e, fun p hp => ⟨(hk p hp).1, KN.mono hF _ _ (hk p hp).2⟩⟩)⟩
theorem dget_is {d y : Tr} {o : Option Tr} (h : dgetT d y = some o) : (∃ ks l, d = .dk ks l) ∨ (∃ ks l, d = .dt ks l) ∨ ∃ ks l, d = .dn ks l := by
  unfold dgetT at h
  split at h
  · exact .inl ⟨_, _, rfl⟩
  · exact .inr (.inl ⟨_, _, rfl⟩)
  · exact .inr (.inr ⟨_, _, rfl⟩)
  · cases h
theorem rp_flat {z : Tr} {v : V} (h : (flat z).isSome = true) (r : RpH K F θ H z v) : Rp K F θ z v := by
  cases z with
  | non => exact r
  | bl b => exact r
  | int i => exact r
  | str x => exact r
  | _ => cases h
theorem mtT_get {cl : List Str} {X : Cx} {x : Tr} {ts : List Tr} {t : Tr} (hu : X.A.units + 64 < cLine) (h : mtT .get x ts = some t) : ((∃ ks l, x = .dk ks l) ∨ (∃ ks l, x = .dt ks l) ∨ ∃ ks l, x = .dn ks l) ∧ MtR X "dict.get" (rMt (MX cl X) x ts t) := by
  unfold mtT at h
  split at h <;> first | (cases h; done) | (contradiction) | skip
  · rename_i y hh
    obtain ⟨o, h9, rfl⟩ := map_some h
    refine ⟨dget_is h9, ?_⟩
    intro pins s0 σ0 H xv xs v us Q I rx rs ⟨F, G, θ, s, σ, R, r1, r2, k⟩
    cases r2 with
    | cons r2 r3 =>
      cases r3
      obtain ⟨a, r, rfl, g, h3, h4⟩ := dgetT_ok R.m.fle h9 r1 r2
      refine mt_get1 hu pins s0 σ0 H _ _ _ _ Q I rx rs ⟨a, _, r, rfl, rfl, g, ?_⟩
      cases o with
      | none => rw [h4 rfl]; exact k.same R .non
      | some u => obtain ⟨z, h5, h6⟩ := h3 u rfl; rw [h5]; exact k.same R h6
  · rename_i y z hh
    split at h
    · rename_i hz
      obtain ⟨o, h9, rfl⟩ := map_some h
      refine ⟨dget_is h9, ?_⟩
      intro pins s0 σ0 H xv xs v us Q I rx rs ⟨F, G, θ, s, σ, R, r1, r2, k⟩
      cases r2 with
      | cons r2 r3 =>
        cases r3 with
        | cons r3 r4 =>
          cases r4
          obtain ⟨a, r, rfl, g, h3, h4⟩ := dgetT_ok R.m.fle h9 r1 r2
          refine mt_get2 hu pins s0 σ0 H _ _ _ _ Q I rx rs ⟨a, _, _, r, rfl, rfl, g, ?_⟩
          cases o with
          | none =>
            rw [h4 rfl]
            have : Rp (MX cl X) F θ z _ := rp_flat hz r3
            exact k.same R this
          | some u => obtain ⟨z, h5, h6⟩ := h3 u rfl; rw [h5]; exact k.same R h6
    · cases h
end Ev
/-! The checker, the canonical readings, what stands around a call. -/
namespace Ev
open PySem PySem.Spec L2
variable {K : Mx} {F F' G H : Hp} {θ θ' : List Addr} {s : Sta} {σ : St}

/-! ### the checker: the given program's text against our own -/
structure Ds where
  fns : List (Nat × Str)
  mks : List (Nat × Str)
  gls : List (Nat × Str)
  blts : List Str
  pars : List (Nat × List Str)
  cl : List Str
  fl : List Str
  prms : List (Nat × (Nat × List Nat × List Str))
  mts : List (Nat × (Str × Str)) := []
  prs : List (Nat × (Str × Str)) := []
/-- f(), which may be super() -/
noncomputable def isCall : Expr → Bool
  | .Call (.Name _ _) xs [] _ => xs.isEmpty
  | _ => false
noncomputable def isStar : Expr → Bool
  | .Starred .. => true
  | _ => false
noncomputable def isSetE : Expr → Bool
  | .Set .. => true
  | _ => false
mutual
/-- a target's names lie among these -/
noncomputable def tgIn (vs : List Nat) : Tg → Bool
  | .nm i => vs.contains i
  | .tp gs => tgsIn vs gs
noncomputable def tgsIn (vs : List Nat) : List Tg → Bool
  | [] => true
  | g :: gs => tgIn vs g && tgsIn vs gs
end
noncomputable def isSlice : Expr → Bool
  | .Slice .. => true
  | _ => false
noncomputable def visB (sc : Scope) (x : Str) : Bool := match sc.names.lookup x with
  | some .local => true
  | some .cell => true
  | some .free => true
  | _ => false
noncomputable def locB (sc : Scope) (x : Str) : Bool := match sc.names.lookup x with
  | some .local => true
  | some .cell => true
  | _ => false
noncomputable def glB (sc : Scope) (x : Str) : Bool := match sc.names.lookup x with
  | some .globalImplicit => true
  | _ => false
noncomputable def okN (x : Str) : Bool := !(x == ("__debug__" : Str)) && !(x == ("__classdict__" : Str))
mutual
noncomputable def chkT (N : List Str) (sc : Scope) : Tg → Expr → Bool
  | .nm i, ex => match ex with
    | .Name x _ => decide (N[i]? = some x) && locB sc x
    | _ => false
  | .tp gs, ex => match ex with
    | .Tuple es _ _ => chkTs N sc gs es
    | _ => false
noncomputable def chkTs (N : List Str) (sc : Scope) : List Tg → List Expr → Bool
  | [], es => match es with
    | [] => true
    | _ => false
  | g :: gs, es => match es with
    | e :: es => !isStar e && chkT N sc g e && chkTs N sc gs es
    | _ => false
end
noncomputable def isTp : Tg → Bool
  | .tp _ => true
  | _ => false
noncomputable def blB (D : Ds) (sc : Scope) (x y : Str) : Bool := decide (x = y) && glB sc x && decide (x ∈ D.blts)
mutual
noncomputable def chk (D : Ds) (N : List Str) (sc : Scope) : Ex → Expr → Bool
  | .var i, ex => match ex with
    | .Name x _ => decide (N[i]? = some x) && visB sc x && okN x
    | _ => false
  | .mv i, ex => match ex with
    | .Name x _ => decide (N[i]? = some x) && visB sc x && okN x
    | _ => false
  | .gl k, ex => match ex with
    | .Name x _ => decide (D.gls.lookup k = some x) && glB sc x && okN x
    | _ => false
  | .int i, ex => match ex with
    | .Constant (.int j) _ _ => decide (i = j)
    | _ => false
  | .str z, ex => match ex with
    | .Constant (.str y) _ _ => decide (z = y)
    | _ => false
  | .bl b, ex => match ex with
    | .Constant (.bool c) _ _ => decide (b = c)
    | _ => false
  | .non, ex => match ex with
    | .Constant .none _ _ => true
    | _ => false
  | .nul, _ => false
  | .tup es, ex => match ex with
    | .Tuple xs _ _ => chks D N sc es xs
    | _ => false
  | .lst es, ex => match ex with
    | .List xs _ => chks D N sc es xs
    | _ => false
  | .shd es, ex => match ex with
    | .List xs _ => chks D N sc es xs
    | _ => false
  | .bin o a b, ex => match ex with
    | .BinOp x op y _ => decide (op = o.py) && chk D N sc a x && chk D N sc b y
    | _ => false
  | .neg a, ex => match ex with
    | .UnaryOp .USub x _ => chk D N sc a x
    | _ => false
  | .cmp o a b, ex => match ex with
    | .Compare x [op] [y] _ => decide (op = o.py) && chk D N sc a x && chk D N sc b y && !behindInMarks op y
    | _ => false
  | .chain o p a b c, ex => match ex with
    | .Compare x [op, op'] [y, z] _ => decide (op = o.py) && decide (op' = p.py) && chk D N sc a x && chk D N sc b y && chk D N sc c z && !behindInMarks op' z
    | _ => false
  | .and_ a b, ex => match ex with
    | .BoolOp .And (x :: y :: r) p => chk D N sc a x && (match r with
      | [] => chk D N sc b y
      | _ => chk D N sc b (.BoolOp .And (y :: r) p))
    | _ => false
  | .or_ a b, ex => match ex with
    | .BoolOp .Or (x :: y :: r) p => chk D N sc a x && (match r with
      | [] => chk D N sc b y
      | _ => chk D N sc b (.BoolOp .Or (y :: r) p))
    | _ => false
  | .not_ a, ex => match ex with
    | .UnaryOp .Not x _ => chk D N sc a x
    | _ => false
  | .ite c a b, ex => match ex with
    | .IfExp t x y _ => chk D N sc c t && chk D N sc a x && chk D N sc b y
    | _ => false
  | .idx a b, ex => match ex with
    | .Subscript x y _ => !isSlice y && chk D N sc a x && chk D N sc b y
    | _ => false
  | .sl a lo hi, ex => match ex with
    | .Subscript x (.Slice l h none _) _ => chk D N sc a x && (match l with
      | none => isNul lo
      | some l => !isNul lo && chk D N sc lo l) && (match h with
      | none => isNul hi
      | some h => !isNul hi && chk D N sc hi h)
    | _ => false
  | .stp a lo st, ex => match ex with
    | .Subscript x (.Slice l none (some e) _) _ => chk D N sc a x && (match l with
      | none => isNul lo
      | some l => !isNul lo && chk D N sc lo l) && chk D N sc st e
    | _ => false
  | .rev a, ex => match ex with
    | .Subscript x (.Slice none none (some (.UnaryOp .USub (.Constant (.int 1) _ _) _)) _) _ => chk D N sc a x
    | _ => false
  | .call f es, ex => match ex with
    | .Call (.Name x _) xs [] _ => decide (D.fns.lookup f = some x) && glB sc x && okN x && chks D N sc es xs
    | _ => false
  | .bi b es, ex => match ex with
    | .Call (.Name x _) xs [] _ => blB D sc x b.nm && (match b with
      | .listRg => (match xs with
        | [.Call (.Name y _) ys [] _] => blB D sc y "range" && chks D N sc es ys && decide (ys.length = 1)
        | _ => false)
      | .isInt => (match xs with
        | [z, .Name y _] => chks D N sc es [z] && blB D sc y "int"
        | _ => false)
      | .isBool => (match xs with
        | [z, .Name y _] => chks D N sc es [z] && blB D sc y "bool"
        | _ => false)
      | .isStr => (match xs with
        | [z, .Name y _] => chks D N sc es [z] && blB D sc y "str"
        | _ => false)
      | .isTup => (match xs with
        | [z, .Name y _] => chks D N sc es [z] && blB D sc y "tuple"
        | _ => false)
      | _ => chks D N sc es xs)
    | _ => false
  | .pop i, ex => match ex with
    | .Call (.Attribute (.Name x _) m ap) [] [] p => decide (m = ("pop" : Str)) && decide (N[i]? = some x) && visB sc x && okN x && (ap.endLine == p.line)
    | _ => false
  | .comp k elt tg its cond own, ex => match ex with
    | .ListComp e' [⟨tg', iter, ifs, 0⟩] scope _ => !isSetE iter && tgIn own tg && blkC N sc scope (own.map fun i => (N.getD i "", i)) && chk D N scope elt e' && chkT N scope tg tg' && (match ifs with
      | [] => isNul cond
      | [c] => !isNul cond && chk D N scope cond c
      | _ => false) && (match k with
      | 0 => chks D N sc its [iter]
      | 1 => (match iter with
        | .Call (.Name y _) ys [] _ => blB D sc y "range" && chks D N sc its ys && decide (ys.length = 1)
        | _ => false)
      | 2 => (match iter with
        | .Call (.Name y _) ys [] _ => blB D sc y "range" && chks D N sc its ys && decide (ys.length = 2)
        | _ => false)
      | 3 => isTp tg && (match iter with
        | .Call (.Name y _) ys [] _ => blB D sc y "enumerate" && chks D N sc its ys && decide (ys.length = 1)
        | _ => false)
      | 4 => isTp tg && (match iter with
        | .Call (.Name y _) ys [] _ => blB D sc y "zip" && chks D N sc its ys && decide (ys.length = 2)
        | _ => false)
      | 5 => isTp tg && (match iter with
        | .Call (.Name y _) ys [] _ => blB D sc y "zip" && chks D N sc its ys && decide (ys.length = 3)
        | _ => false)
      | 6 => (match iter with
        | .Call (.Name y _) ys [] _ => blB D sc y "range" && chks D N sc its ys && decide (ys.length = 3)
        | _ => false)
      | _ => false)
    | _ => false
  | .bad, _ => true
  | .orV a b, ex => match ex with
    | .BoolOp .Or (x :: y :: r) p => chk D N sc a x && (match r with
      | [] => chk D N sc b y
      | _ => chk D N sc b (.BoolOp .Or (y :: r) p))
    | _ => false
  | .fld a f, ex => match ex with
    | .Attribute x g _ => decide (f = g) && decide (f ∈ D.fl) && !isCall x && chk D N sc a x
    | _ => false
  | .isC c a, ex => match ex with
    | .Call (.Name y _) [z, .Name u _] [] _ => blB D sc y "isinstance" && !isStar z && chk D N sc a z && decide (u = c) && glB sc u && okN u && decide (c ∈ D.cl)
    | _ => false
  | .make f es, ex => match ex with
    | .Call (.Name x _) xs [] _ => decide (D.mks.lookup f = some x) && glB sc x && okN x && chks D N sc es xs
    | _ => false
  | .dsp es, ex => match ex with
    | .Dict ks vs _ => chkPs D N sc es ks vs && decide (ks.length ≤ 15)
    | _ => false
  | .dspN es, ex => match ex with
    | .Dict ks vs _ => chkPs D N sc es ks vs && decide (ks.length ≤ 15)
    | _ => false
  | .isE a, ex => match ex with
    | .Compare x [op] [.Dict [] [] q] _ => decide (op = CmpOp.Eq) && !isStar x && chk D N sc a x
    | _ => false
  | .dcomp kx vx tg a own, ex => match ex with
    | .DictComp k' v' [⟨tg', iter, [], 0⟩] scope _ => !isSetE iter && tgIn own tg && blkC N sc scope (own.map fun i => (N.getD i "", i)) && chk D N scope kx k' && chk D N scope vx v' && chkT N scope tg tg' && !isStar iter && chk D N sc a iter
    | _ => false
  | .meth m a es, ex => match ex with
    | .Call (.Attribute x nm ap) xs [] cp => decide (nm = m.nm) && !isCall x && (ap.endLine == cp.line) && chk D N sc a x && decide (xs.length < 10) && chks D N sc es xs
    | _ => false
  | .popAt i e, ex => match ex with
    | .Call (.Attribute (.Name x _) m ap) [z] [] p => decide (m = ("pop" : Str)) && decide (N[i]? = some x) && visB sc x && okN x && (ap.endLine == p.line) && !isStar z && chk D N sc e z
    | _ => false
  | .cmpO o a b, ex => match ex with
    | .Compare x [op] [y] _ => decide (op = o.py) && chk D N sc a x && chk D N sc b y && !behindInMarks op y
    | _ => false
  | .biO b a, ex => match ex with
    | .Call (.Name x _) [z] [] _ => blB D sc x b.nm && decide (b.tyId = some "tuple") && !isStar z && chk D N sc a z
    | _ => false
  | .prop c m f a, ex => match ex with
    | .Attribute x g _ => decide (D.prs.lookup f = some (c, m)) && decide (g = m) && !isCall x && chk D N sc a x
    | _ => false
  | .eqV c f a b, ex => match ex with
    | .Compare x [.Eq] [y] _ => decide (D.mts.lookup f = some (c, ("__eq__" : Str))) && chk D N sc a x && chk D N sc b y && !behindInMarks .Eq y
    | _ => false
  | .mcall c m f a es, ex => match ex with
    | .Call (.Attribute (.Name x p) nm ap) xs [] cp => decide (D.mts.lookup f = some (c, m)) && decide (nm = m) && (ap.endLine == cp.line) && decide (xs.length < 10) && chk D N sc a (.Name x p) && chks D N sc es xs
    | _ => false
  | .compO elt tg a cond own, ex => match ex with
    | .ListComp e' [⟨tg', iter, ifs, 0⟩] scope _ => !isSetE iter && tgIn own tg && blkC N sc scope (own.map fun i => (N.getD i "", i)) && chk D N scope elt e' && chkT N scope tg tg' && (match ifs with
      | [] => isNul cond
      | [c] => !isNul cond && chk D N scope cond c
      | _ => false) && !isStar iter && chk D N sc a iter
    | _ => false
  | .disp k bs es, ex => match k with
    | 0 => (match ex with
      | .Tuple xs _ _ => chkSt D N sc es bs xs
      | _ => false)
    | _ => (match ex with
      | .List xs _ => chkSt D N sc es bs xs
      | _ => false)
  | .callP f es ks ps, ex => match ex with
    | .Call (.Name x _) xs kws _ => decide (D.fns.lookup f = some x) && glB sc x && okN x && chks D N sc es xs && (match D.prms.lookup f with
      | some (n, qs, ns) => decide (n = es.length) && decide (qs = ps) && chkK D N sc ks ns kws
      | none => false)
    | _ => false
  | .callK f es ks, ex => match ex with
    | .Call (.Name x _) xs kws _ => decide (D.fns.lookup f = some x) && glB sc x && okN x && chks D N sc es xs && (match D.pars.lookup f with
      | some ps => chkK D N sc ks (ps.drop es.length) kws
      | none => false)
    | _ => false
noncomputable def chkPs (D : Ds) (N : List Str) (sc : Scope) : List Ex → List (Option Expr) → List Expr → Bool
  | [], ks, vs => match ks, vs with
    | [], [] => true
    | _, _ => false
  | [_], _, _ => false
  | a :: b :: es, ks, vs => match ks, vs with
    | some k :: ks, v :: vs => chk D N sc a k && chk D N sc b v && chkPs D N sc es ks vs
    | _, _ => false
noncomputable def chkSt (D : Ds) (N : List Str) (sc : Scope) : List Ex → List Bool → List Expr → Bool
  | [], _, xs => match xs with
    | [] => true
    | _ => false
  | e :: es, bs, xs => match xs with
    | x :: xs => (if bs.headD false then (match x with
      | .Starred y _ => chk D N sc e y
      | _ => false) else !isStar x && chk D N sc e x) && chkSt D N sc es bs.tail xs
    | _ => false
noncomputable def chkK (D : Ds) (N : List Str) (sc : Scope) : List Ex → List Str → List Keyword → Bool
  | [], ps, kws => match ps with
    | [] => (match kws with
      | [] => true
      | _ => false)
    | _ => false
  | e :: es, ps, kws => match ps with
    | p :: ps => (match kws with
      | ⟨some nm, x, _⟩ :: kws => decide (nm = p) && chk D N sc e x && chkK D N sc es ps kws
      | _ => false)
    | _ => false
noncomputable def chks (D : Ds) (N : List Str) (sc : Scope) : List Ex → List Expr → Bool
  | [], xs => match xs with
    | [] => true
    | _ => false
  | e :: es, xs => match xs with
    | x :: xs => !isStar x && chk D N sc e x && chks D N sc es xs
    | _ => false
end

/-! ### canonical readings -/
section
variable (gc : Nat → Option Tr) (cf : CF)
noncomputable def RE (K : Mx) (e : Ex) : TE := fun σ H Q => ∃ F G θ s t s', Rel K F G θ s σ H ∧ evX gc cf e false s = .ok t s' ∧ ∀ v H' F' θ', Rel K F' G θ' s' σ H' → FLe F F' → θ <+: θ' → RpV K F' θ' σ t v → Q v H'
noncomputable def RT (K : Mx) (e : Ex) : TT := fun σ H Q => ∃ F G θ s b s', Rel K F G θ s σ H ∧ evX gc cf e true s = .ok (.bl b) s' ∧ ∀ H' F' θ', Rel K F' G θ' s' σ H' → FLe F F' → θ <+: θ' → Q b H'
inductive RpVs (K : Mx) (F : Hp) (θ : List Addr) (σ : St) : List Tr → List V → Prop
  | nil : RpVs K F θ σ [] []
  | cons {t : Tr} {l : List Tr} {v : V} {vs : List V} : RpV K F θ σ t v → RpVs K F θ σ l vs → RpVs K F θ σ (t :: l) (v :: vs)
noncomputable def RA (K : Mx) (es : List Ex) : TA := fun σ H Q => ∃ F G θ s ts s', Rel K F G θ s σ H ∧ evEs gc cf es s = .ok ts s' ∧ ∀ vs H' F' θ', Rel K F' G θ' s' σ H' → FLe F F' → θ <+: θ' → RpVs K F' θ' σ ts vs → Q vs H'
end
theorem RpVs.rps : ∀ {ts : List Tr} {vs : List V}, RpVs K F θ σ ts vs → ts.all Tr.pure = true → Rps K F θ ts vs
  | _, _, .nil, _ => .nil
  | _, _, .cons r s, h => by
    rw [List.all_cons, Bool.and_eq_true] at h
    exact .cons (r.rp h.1) (s.rps h.2)
/-- a call's promise by the evaluator -/
noncomputable def SpE (K : Mx) (cf : CF) (f n : Nat) : Sp := fun vs H Q _ => vs.length = n ∧ ∃ F G θ ts m t m', RelM K F G θ m H ∧ Rps K F θ ts vs ∧ cf f ts m = some (t, m') ∧ ∀ v H' F' θ', RelM K F' G θ' m' H' → FLe F F' → θ <+: θ' → Rp K F' θ' t v → Q v H'

/-- an __init__'s promise: the new instance, no more the callers' -/
noncomputable def SpI (K : Mx) (cf : CF) (f n : Nat) (c : Str) : Sp := fun vs H Q _ => vs.length = n ∧ ∃ F G θ ts m t m' x us C dx, vs = .ref x :: us ∧ c ∈ K.cl ∧ K.mg c = some (.ref C) ∧ H x = some (.ins C dx []) ∧ F x = none ∧ G x = none ∧ x ∉ θ ∧ RelM K F G θ m H ∧ Rps K F θ ts us ∧ cf f ts m = some (t, m') ∧
  ∀ H' F' θ', RelM K F' G θ' m' H' → FLe F F' → θ <+: θ' → Rp K F' θ' t (.ref x) → Q .non H'
noncomputable def KB (K : PySem.W.Frag) (fd : FuncData) (ps : List Str) : Prop := ∀ (s : Shared) (us ws : List Value), K.In s.heap → (us ++ ws).length = ps.length → BindsTo s fd ⟨us, (ps.drop us.length).zip ws⟩ (ps.zip (us ++ ws))
/-- the same, the names in another sequence -/
noncomputable def KP (K : PySem.W.Frag) (fd : FuncData) (ps : List Str) (n : Nat) (qs : List Nat) (ns : List Str) : Prop := ∀ (s : Shared) (us ws : List Value), K.In s.heap → us.length = n → ws.length = ns.length → BindsTo s fd ⟨us, ns.zip ws⟩ (ps.zip (us ++ pick qs ws))
theorem KB.binds {K : PySem.W.Frag} {fd : FuncData} {ps : List Str} (h : KB K fd ps) : Binds K fd ps [] := fun s us hk hl => by
  have := h s us [] hk hl
  rw [List.zip_nil_right] at this
  exact this
/-- what is known of a class of our own -/
structure ClsF (K : PySem.W.Frag) (fl : List Str) (C : Addr) : Prop where
  cl : Cls K C
  na : ∀ f ∈ fl, NoAttr K C f
  kit : ∀ T ∈ (["NoneType", "bool", "int", "str", "list", "tuple", "dict"] : List String), PySem.W.kitOne K (.type T) (.ref C) = some false
  ha : PySem.W.findIn K (.ref C) "__class__" = some (some (.builtin "object.__class__"))
  hn : PySem.W.specialIn K (.builtin "object.__class__") "__get__" = some (some (.builtin "getset_descriptor.__get__"))
  htk : PySem.W.takesIn K (.builtin "object.__class__") = some true
  hm : PySem.W.mroIn K C (.type "object") = some true
structure Cxt (D : Ds) (gc : Nat → Option Tr) (cf : CF) (X : Cx) (sc : Scope) : Prop where
  nd : X.N.Nodup
  calm : X.calm = true
  gd : X.A.guards = some []
  xe : X.xe = fun _ _ => False
  vis : ∀ x, visB sc x = true → Vis X.env.scope x
  loc : ∀ x, locB sc x = true → Loc X.env.scope x ∧ (X.fn x = true ∨ X.env.scope.names.lookup x = some .local)
  glo : ∀ x, glB sc x = true → Gl X x
  blk : ∀ scope own, blkC X.N sc scope own = true → BlkOk X.N X.env.scope scope own
  gl : ∀ (k : Nat) t x, gc k = some t → D.gls.lookup k = some x → ∃ v u, X.mg x = some u ∧ RelV v u ∧ Rp (MX D.cl X) (fun _ => none) [] t v
  cls : ∀ c ∈ D.cl, ∃ C, X.mg c = some (.ref C) ∧ ClsF X.K D.fl C
  kit2 : ∀ c ∈ D.cl, ∀ c' ∈ D.cl, ∀ C C', X.mg c = some (.ref C) → X.mg c' = some (.ref C') → PySem.W.kitOne X.K (.ref C') (.ref C) = some (decide (c' = c))
  mkF : ∀ (f : Nat) x, D.mks.lookup f = some x → ∀ ts m r, cf f ts m = some r → ∃ (C fa : Addr) (fd : FuncData) (ps : List Str) (k : Nat), x ∈ D.cl ∧ X.mg x = some (.ref C) ∧ Mk X.K C fa ∧ KB X.K fd ps ∧ Room (k + 1) X.A ∧
    FnG X.prog X.w X.K X.mg X.base k fa fd ps (SpI (MX D.cl X) cf f ps.length x) ∧ ts.length + 1 = ps.length
  blt : ∀ x ∈ D.blts, X.mg x = none
  un : X.A.units + 200 < cLine
  fn : ∀ (f : Nat) x, D.fns.lookup f = some x → ∀ ts m r, cf f ts m = some r → ∃ (fa : Addr) (fd : FuncData) (ps : List Str) (k : Nat), D.pars.lookup f = some ps ∧ X.mg x = some (.ref fa) ∧ PySem.W.keepIn X.K (.ref fa) = true ∧ KB X.K fd ps ∧ Room k X.A ∧
    FnG X.prog X.w X.K X.mg X.base k fa fd ps (SpE (MX D.cl X) cf f ps.length) ∧ ts.length = ps.length
  mtF : ∀ (f : Nat) c m, D.mts.lookup f = some (c, m) → ∀ ts m' r, cf f ts m' = some r → ∃ (C fa : Addr) (fd : FuncData) (ps : List Str) (k : Nat), c ∈ D.cl ∧ X.mg c = some (.ref C) ∧ Meth X.K C m fa ∧ KB X.K fd ps ∧ Room k X.A ∧
    FnG X.prog X.w X.K X.mg X.base k fa fd ps (SpE (MX D.cl X) cf f ps.length) ∧ ts.length = ps.length
  prF : ∀ (f : Nat) c m, D.prs.lookup f = some (c, m) → ∀ ts m' r, cf f ts m' = some r → ∃ (C p fa : Addr) (fd : FuncData) (ps : List Str) (k : Nat), c ∈ D.cl ∧ X.mg c = some (.ref C) ∧ PropOf X.K C m p fa ∧ KB X.K fd ps ∧ Room (k + 1) X.A ∧
    FnG X.prog X.w X.K X.mg X.base k fa fd ps (SpE (MX D.cl X) cf f ps.length) ∧ ts.length = ps.length
  fnP : ∀ (f : Nat) x n qs ns, D.fns.lookup f = some x → D.prms.lookup f = some (n, qs, ns) → ∀ ts m r, cf f ts m = some r → ∃ (fa : Addr) (fd : FuncData) (ps : List Str) (k : Nat), D.pars.lookup f = some ps ∧ X.mg x = some (.ref fa) ∧ PySem.W.keepIn X.K (.ref fa) = true ∧ KP X.K fd ps n qs ns ∧ Room k X.A ∧
    FnG X.prog X.w X.K X.mg X.base k fa fd ps (SpE (MX D.cl X) cf f ps.length) ∧ ts.length = ps.length

/-! ### out and back: around a call, a block -/
open Classical in
/-- what a callee may not touch -/
noncomputable def ownG (s : Sta) (σ : St) (G H : Hp) : Hp := fun a => if ∃ (i : Nat) (l : Ob), s.env[i]? = some (Slot.own l) ∧ σ[i]? = some (some (V.ref a)) then H a else G a
theorem ownG_of {a : Addr} {i : Nat} {l : Ob} (h : s.env[i]? = some (.own l)) (h' : σ[i]? = some (some (V.ref a))) : ownG s σ G H a = H a := by
  unfold ownG
  rw [if_pos ⟨i, l, h, h'⟩]
theorem ownG_not {a : Addr} (h : ¬ ∃ (i : Nat) (l : Ob), s.env[i]? = some (Slot.own l) ∧ σ[i]? = some (some (V.ref a))) : ownG s σ G H a = G a := by
  unfold ownG
  rw [if_neg h]
theorem Rel.gG (R : Rel K F G θ s σ H) : FLe G (ownG s σ G H) := fun a o e => by
  by_cases h : ∃ (i : Nat) (l : Ob), s.env[i]? = some (Slot.own l) ∧ σ[i]? = some (some (V.ref a))
  · obtain ⟨i, l, h1, h2⟩ := h
    rw [ownG_of h1 h2]
    exact R.m.gle a o e
  · rw [ownG_not h]
    exact e
theorem Rel.ownAt (R : Rel K F G θ s σ H) {a : Addr} {i : Nat} {l : Ob} (h : s.env[i]? = some (.own l)) (h' : σ[i]? = some (some (V.ref a))) : ∃ o, H a = some o ∧ F a = none ∧ G a = none ∧ a ∉ θ ∧ RpB K F θ a l o := by
  obtain ⟨b, xs, e, q⟩ := R.slot i _ h
  rw [h'] at e
  cases e
  exact ⟨xs, q⟩
theorem Rel.out (R : Rel K F G θ s σ H) : RelM K F (ownG s σ G H) θ s.mem H := by
  refine ⟨R.m.fle, fun a o e => ?_, fun a o e => ?_, R.m.len, R.m.nd, fun a o e => ?_, R.m.al, fun n o e hg => ?_⟩
  · by_cases h : ∃ (i : Nat) (l : Ob), s.env[i]? = some (Slot.own l) ∧ σ[i]? = some (some (V.ref a))
    · obtain ⟨i, l, h1, h2⟩ := h
      rw [ownG_of h1 h2] at e
      exact e
    · rw [ownG_not h] at e
      exact R.m.gle a o e
  · by_cases h : ∃ (i : Nat) (l : Ob), s.env[i]? = some (Slot.own l) ∧ σ[i]? = some (some (V.ref a))
    · obtain ⟨i, l, h1, h2⟩ := h
      obtain ⟨xs, _, f, _⟩ := R.ownAt h1 h2
      exact f
    · rw [ownG_not h] at e
      exact R.m.fg a o e
  · by_cases h : ∃ (i : Nat) (l : Ob), s.env[i]? = some (Slot.own l) ∧ σ[i]? = some (some (V.ref a))
    · obtain ⟨i, l, h1, h2⟩ := h
      obtain ⟨xs, _, _, _, f, _⟩ := R.ownAt h1 h2
      exact f
    · rw [ownG_not h] at e
      exact R.m.gt a o e
  · obtain ⟨a, h1, h2, h3, h4⟩ := R.m.ob n o e hg
    refine ⟨a, h1, h2, ?_, h4⟩
    have : ¬ ∃ (i : Nat) (l : Ob), s.env[i]? = some (Slot.own l) ∧ σ[i]? = some (some (V.ref a)) := by
      rintro ⟨i, l, q1, q2⟩
      obtain ⟨xs, _, _, _, f, _⟩ := R.ownAt q1 q2
      exact f (List.mem_of_getElem? h1)
    rw [ownG_not this]
    exact h3
theorem Rel.back (R : Rel K F G θ s σ H) {m' : List Ob} {H' : Hp} (M : RelM K F' (ownG s σ G H) θ' m' H') (hF : FLe F F') (hθ : θ <+: θ') : Rel K F' G θ' ⟨s.env, m'⟩ σ H' := by
  have gG := R.gG
  have dom : ∀ a, F' a = none ∨ ownG s σ G H a = none := fun a => by
    cases e : ownG s σ G H a with
    | none => exact .inr rfl
    | some o => exact .inl (M.fg a o e)
  have thG : ∀ a o, ownG s σ G H a = some o → a ∉ θ' := M.gt
  refine ⟨⟨M.fle, gG.trans M.gle, fun a o e => M.fg a o (gG a o e), M.len, M.nd, fun a o e => M.gt a o (gG a o e), M.al, fun n o e hg => ?_⟩, R.len, fun i x e => ?_, R.dis⟩
  · obtain ⟨a, h1, h2, h3, h4⟩ := M.ob n o e hg
    exact ⟨a, h1, h2, gG.none h3, h4⟩
  · have r := R.slot i x e
    cases x with
    | none => exact r
    | val t => obtain ⟨y, e1, q⟩ := r; exact ⟨y, e1, q.mono hF hθ⟩
    | own l =>
      obtain ⟨a, xs, e1, h, f, g, t, q⟩ := r
      have eo : ownG s σ G H a = some xs := (ownG_of (s := s) e e1).trans h
      exact ⟨a, xs, e1, M.gle a _ eo, M.fg a _ eo, g, thG a _ eo, q.mono hF hθ⟩
end Ev
/-! Soundness of expressions, part 1: the parts. -/
namespace Ev
open PySem PySem.Spec L2
variable {K : Mx} {F F' G H : Hp} {θ θ' : List Addr} {s : Sta} {σ : St}

theorem and2 {a b : Bool} (h : (a && b) = true) : a = true ∧ b = true := by simpa using h
theorem visB_ok {sc : Scope} {x : Str} (h : visB sc x = true) : Vis sc x := by
  unfold visB at h
  split at h
  · exact .inl (by assumption)
  · exact .inr (.inl (by assumption))
  · exact .inr (.inr (by assumption))
  · cases h
theorem locB_ok {sc : Scope} {x : Str} (h : locB sc x = true) : Loc sc x := by
  unfold locB at h
  split at h
  · exact .inl (by assumption)
  · exact .inr (by assumption)
  · cases h
theorem okN_ok {x : Str} (h : okN x = true) : (x == ("__debug__" : Str)) = false ∧ (x == ("__classdict__" : Str)) = false := by
  unfold okN at h
  obtain ⟨h1, h2⟩ := and2 h
  exact ⟨by simpa using h1, by simpa using h2⟩
theorem star_cons {e : Expr} {es : List Expr} {env : Env} (h : isStar e = false) : starEach (e :: es) env = (false, eval e env) :: starEach es env := by
  cases e <;> first | rfl | (exact nomatch h)
theorem chks_plain {D : Ds} {N : List Str} {sc : Scope} {env : Env} {pos : Pos} : ∀ {es : List Ex} {xs : List Expr}, chks D N sc es xs = true → (backTo pos (starEach xs env)).any (·.1) = false
  | [], xs, h => by
    cases xs with
    | nil => rfl
    | cons _ _ => exact nomatch h
  | e :: es, xs, h => by
    cases xs with
    | nil => exact nomatch h
    | cons x xs =>
      simp only [chks] at h
      obtain ⟨h1, h2⟩ := and2 h
      obtain ⟨h1, h3⟩ := and2 h1
      rw [star_cons (by simpa using h1)]
      have := chks_plain (env := env) (pos := pos) h2
      show (false || (backTo pos (starEach xs env)).any (·.1)) = false
      rw [this]
      rfl
/-! ### indices, slices -/
theorem atI_rps {l : List Tr} {xs : List V} {i : Int} {t : Tr} (r : Rps K F θ l xs) (h : atI l i = some t) : ∃ v, atI xs i = some v ∧ Rp K F θ t v := by
  unfold atI at h ⊢
  rw [r.length]
  cases e : ixN l.length i with
  | none => rw [e] at h; cases h
  | some j =>
    rw [e] at h
    exact r.get h
/-- an index's reading -/
theorem idxT_ok {x y t : Tr} {v w : V} {Q : VK} (R : Rel K F G θ s σ H) (h : idxT x y = some t) (r1 : RpH K F θ H x v) (r2 : RpH K F θ H y w) (k : Fin K F G θ s σ t Q) : rIx K v w H Q ∨ ∃ a z, v = .ref a ∧ DG K.P K.w K H a w (some z) ∧ Q z H := by
  have dct : ∀ {d : Tr}, (dgetT d y).bind id = some t → RpH K F θ H d v → ∃ a z, v = .ref a ∧ DG K.P K.w K H a w (some z) ∧ Q z H := by
    intro d hh rr
    cases e : dgetT d y with
    | none => rw [e] at hh; cases hh
    | some o =>
      rw [e] at hh
      have ho : o = some t := hh
      subst ho
      obtain ⟨a, r, h1, h2, h3, _⟩ := dgetT_ok R.m.fle e rr r2
      obtain ⟨z, h5, h6⟩ := h3 t rfl
      subst h5
      exact ⟨a, z, h1, h2, k.same R h6⟩
  unfold idxT at h
  split at h
  · obtain ⟨a, xs, rfl, q, r, _⟩ := tupH r1 R.m.fle
    cases intH r2
    obtain ⟨z, e, rz⟩ := atI_rps r h
    exact .inl <| .inr (.inl ⟨a, xs, _, z, rfl, rfl, q, e, k.same R rz⟩)
  · obtain ⟨a, xs, rfl, q, r⟩ := r1
    cases intH r2
    obtain ⟨z, e, rz⟩ := atI_rps r h
    exact .inl <| .inl ⟨a, xs, _, z, rfl, rfl, SqL.of q, e, k.same R rz⟩
  · obtain ⟨a, xs, rfl, q, r⟩ := flstH r1 R.m.fle
    cases intH r2
    obtain ⟨z, e, rz⟩ := atI_rps r h
    exact .inl <| .inl ⟨a, xs, _, z, rfl, rfl, q, e, k.same R rz⟩
  · split at h
    · obtain ⟨c, h9, rfl⟩ := map_some h
      cases strH r1
      cases intH r2
      exact .inl <| .inr (.inr ⟨_, _, c, rfl, rfl, by assumption, h9, k.same R (.str _)⟩)
    · cases h
  · exact .inr (dct h r1)
  · exact .inr (dct h r1)
  · exact .inr (dct h r1)
  · cases h
theorem cut_rps {l : List Tr} {xs : List V} {lo hi : Option Int} (r : Rps K F θ l xs) : Rps K F θ (cutT l lo hi) (cutV xs lo hi) := by
  unfold cutT cutV
  rw [r.length]
  exact (r.drop _).take _
theorem slT_ok {x t : Tr} {v : V} {lo hi : Option Int} {Q : VK} (R : Rel K F G θ s σ H) (h : slT x lo hi = some t) (r1 : RpH K F θ H x v) (k : Fin K F G θ s σ t Q) : rSlA K v lo hi H Q ∨ rSlL K v lo hi H Q ∨ rSlS v lo hi H Q := by
  unfold slT at h
  split at h
  · cases h
    obtain ⟨a, xs, rfl, q, r, f⟩ := tupH r1 R.m.fle
    refine .inl ⟨a, xs, rfl, q, fun e => ?_, fun _ p np => k.tup R np (cut_rps r)⟩
    have : cutV xs lo hi = xs := by
      unfold cutV
      rw [e.1, e.2, List.drop_zero, Nat.sub_zero]
      exact List.take_of_length_le (Nat.le_refl _)
    refine k.same R (.tup f ?_)
    have q2 := cut_rps (lo := lo) (hi := hi) r
    rw [this] at q2
    exact q2
  · cases h
    obtain ⟨a, xs, rfl, q, r⟩ := r1
    exact .inr (.inl ⟨a, xs, rfl, SqL.of q, fun p np => k.lst R np (cut_rps r)⟩)
  · cases h
    obtain ⟨a, xs, rfl, q, r⟩ := flstH r1 R.m.fle
    exact .inr (.inl ⟨a, xs, rfl, q, fun p np => k.lst R np (cut_rps r)⟩)
  · split at h
    · cases h
      cases strH r1
      exact .inr (.inr ⟨_, rfl, by assumption, k.same R (.str _)⟩)
    · cases h
  · cases h
theorem slT_nb {x t : Tr} {lo hi : Option Int} (h : slT x lo hi = some t) : x.pure = true := by cases x <;> first | rfl | (exact nomatch h)

/-! ### truth -/
theorem truth_ok {x : Tr} {b : Bool} {v : V} (hF : FLe F H) (h : truth x = some b) (r : RpH K F θ H x v) : TruV K v H b := by
  have emp : ∀ {l : List Tr} {xs : List V}, Rps K F θ l xs → (!xs.isEmpty) = !l.isEmpty := by
    intro l xs r
    cases r <;> rfl
  unfold truth at h
  split at h
  · cases h; cases nonH r; rfl
  · cases h; cases blH r; rfl
  · cases h; cases intH r; rfl
  · cases h
    obtain ⟨a, xs, rfl, q, r, _⟩ := tupH r hF
    exact .inr (.inl ⟨xs, q, (emp r).symm⟩)
  · cases h
    obtain ⟨a, xs, rfl, q, r⟩ := r
    exact .inl ⟨xs, SqL.of q, (emp r).symm⟩
  · split at h
    · cases h
      cases strH r
      exact ⟨by assumption, rfl⟩
    · cases h
  · cases h
theorem truth_nb {x : Tr} {b : Bool} (h : truth x = some b) : x.pure = true := by cases x <;> first | rfl | (exact nomatch h)
theorem idxT_nb {x y t : Tr} (h : idxT x y = some t) : x.pure = true := by cases x <;> first | rfl | (exact nomatch h)
/-- an operand that is something pure -/
theorem Rel.read (R : Rel K F G θ s σ H) {t : Tr} {v : V} (r : RpV K F θ σ t v) (p : (s.deref t).pure = true) : RpH K F θ H (s.deref t) v := by
  rcases R.deref r with ⟨i, e⟩ | h
  · rw [e] at p
    cases p
  · exact h
theorem RpVs.mono (hF : FLe F F') (hθ : θ <+: θ') : ∀ {ts : List Tr} {vs : List V}, RpVs K F θ σ ts vs → RpVs K F' θ' σ ts vs
  | _, _, .nil => .nil
  | _, _, .cons r s => .cons (r.mono hF hθ) (s.mono hF hθ)
theorem Rel.reads (R : Rel K F G θ s σ H) : ∀ {ts : List Tr} {vs : List V}, RpVs K F θ σ ts vs → (ts.map s.deref).all Tr.pure = true → RpHs K F θ H (ts.map s.deref) vs
  | _, _, .nil, _ => .nil
  | _, _, .cons r q, h => by
    rw [List.map_cons, List.all_cons, Bool.and_eq_true] at h
    exact .cons (R.read r h.1) (R.reads q h.2)
/-! ### the context -/
section
variable {D : Ds} {gc : Nat → Option Tr} {cf : CF} {X : Cx} {sc : Scope}
theorem Cxt.u64 (C : Cxt D gc cf X sc) : X.A.units + 64 < cLine := by have := C.un; omega
/-- a test that is its value's truth -/
theorem pt_of {e : Ex} {ex : Expr} (h : PE X ex (RE gc cf (MX D.cl X) e)) (he : ∀ whole, isTrue ex X.env whole = (do let v ← whole; standAt ex.pos; holding [v] (truthy v))) (ev : ∀ s, evX gc cf e true s = fin true (evX gc cf e false s)) :
    PT X ex (RT gc cf (MX D.cl X) e) := by
  refine ⟨fun pins s0 σ H Q I hw => ?_⟩
  obtain ⟨F, G, θ, s, b, s', R, e1, k⟩ := hw
  rw [ev] at e1
  obtain ⟨x, s1, e2, e3⟩ := Rs.bind_eq e1
  obtain ⟨e4, rfl⟩ := Rs.of_eq e3
  obtain ⟨b', e5, e6⟩ := map_some e4
  obtain rfl : b' = b := by injection e6
  refine (pt_truth h he).run pins s0 σ H Q I ⟨F, G, θ, s, x, s1, R, e2, fun v H' F' θ' R' l p r => ?_⟩
  exact ⟨b', truth_ok R'.m.fle e5 (R'.read r (truth_nb e5)), k H' F' θ' R' l p⟩
end
end Ev
/-! Soundness: states that change; targets; what is walked. -/
namespace Ev
open PySem PySem.Spec L2
variable {K : Mx} {F F' G H : Hp} {θ θ' : List Addr} {s : Sta} {σ : St}

/-! ### states that change -/
/-- a thing of nobody's becomes one that stays -/
theorem Rel.fix {D : Addr} {o : HO} (R : Rel K F G θ s σ H) (h : H D = some o) (f : F D = none) (g : G D = none) (t : D ∉ θ) (ow : ∀ (i : Nat) (l : Ob), s.env[i]? = some (Slot.own l) → σ[i]? ≠ some (some (V.ref D))) :
    Rel K (upd F D o) G θ s σ H := by
  have le : FLe F (upd F D o) := FLe.upd1 f
  refine ⟨⟨fun a u e => ?_, R.m.gle, fun a u e => ?_, R.m.len, R.m.nd, R.m.gt, R.m.al, fun n u e hu => ?_⟩, R.len, fun i x e => ?_, R.dis⟩
  · by_cases z : a = D
    · subst z; rw [upd_same] at e; cases e; exact h
    · rw [upd_ne z] at e; exact R.m.fle a u e
  · rw [upd_ne (ne_of_none e g)]
    exact R.m.fg a u e
  · obtain ⟨a, h1, h2, h3, h4⟩ := R.m.ob n u e hu
    have ne : a ≠ D := fun z => t (z ▸ List.mem_of_getElem? h1)
    refine ⟨a, h1, by rw [upd_ne ne]; exact h2, h3, ?_⟩
    obtain ⟨xs, q, r⟩ := h4
    exact ⟨xs, q, r.mono le (List.prefix_refl _)⟩
  · have r := R.slot i x e
    cases x with
    | none => exact r
    | val t => obtain ⟨y, e1, q⟩ := r; exact ⟨y, e1, q.mono le (List.prefix_refl _)⟩
    | own l =>
      obtain ⟨a, xs, e1, h1, f1, g1, t1, q⟩ := r
      have ne : a ≠ D := fun z => ow i l e (z ▸ e1)
      exact ⟨a, xs, e1, h1, by rw [upd_ne ne]; exact f1, g1, t1, q.mono le (List.prefix_refl _)⟩
theorem get_set {α : Type} {l : List α} {i j : Nat} {x y : α} (h : (l.set i x)[j]? = some y) : (i = j ∧ y = x ∧ i < l.length) ∨ (i ≠ j ∧ l[j]? = some y) := by
  by_cases e : i = j
  · subst e
    have hi : i < l.length := by have := (List.getElem?_eq_some_iff.mp h).1; simpa using this
    rw [List.getElem?_set_self hi] at h
    exact .inl ⟨rfl, (Option.some.inj h).symm, hi⟩
  · rw [List.getElem?_set_ne e] at h
    exact .inr ⟨e, h⟩
/-- a slot becomes a value -/
theorem Rel.store {i : Nat} {t : Tr} {v : V} (R : Rel K F G θ s σ H) (r : Rp K F θ t v) (hi : i < s.env.length) : Rel K F G θ ⟨s.env.set i (.val t), s.mem⟩ (σ.set i (some v)) H := by
  have hσ : i < σ.length := by rw [← R.len]; exact hi
  refine ⟨R.m, by simpa using R.len, fun j x e => ?_, fun a b l l' c e1 e2 e3 e4 => ?_⟩
  · rcases get_set e with ⟨rfl, rfl, _⟩ | ⟨ne, e⟩
    · exact ⟨v, by rw [List.getElem?_set_self hσ], r⟩
    · rw [List.getElem?_set_ne ne]
      exact R.slot j x e
  · rcases get_set e1 with ⟨_, z, _⟩ | ⟨n1, e1⟩
    · cases z
    · rcases get_set e2 with ⟨_, z, _⟩ | ⟨n2, e2⟩
      · cases z
      · rw [List.getElem?_set_ne n1] at e3
        rw [List.getElem?_set_ne n2] at e4
        exact R.dis a b l l' c e1 e2 e3 e4
/-- a slot becomes an own list -/
theorem Rel.storeOwn {i : Nat} {l : Ob} {a : Addr} {xs : HO} (R : Rel K F G θ s σ H) (r : RpB K F θ a l xs) (h : H a = some xs) (f : F a = none) (g : G a = none) (t : a ∉ θ)
    (ow : ∀ (j : Nat) (l : Ob), j ≠ i → s.env[j]? = some (Slot.own l) → σ[j]? ≠ some (some (V.ref a))) (hi : i < s.env.length) : Rel K F G θ ⟨s.env.set i (.own l), s.mem⟩ (σ.set i (some (.ref a))) H := by
  have hσ : i < σ.length := by rw [← R.len]; exact hi
  refine ⟨R.m, by simpa using R.len, fun j x e => ?_, fun p q l l' c e1 e2 e3 e4 => ?_⟩
  · rcases get_set e with ⟨rfl, rfl, _⟩ | ⟨ne, e⟩
    · exact ⟨a, xs, by rw [List.getElem?_set_self hσ], h, f, g, t, r⟩
    · rw [List.getElem?_set_ne ne]
      exact R.slot j x e
  · rcases get_set e1 with ⟨rfl, _, _⟩ | ⟨n1, e1⟩
    · rcases get_set e2 with ⟨rfl, _, _⟩ | ⟨n2, e2⟩
      · rfl
      · rw [List.getElem?_set_self hσ] at e3
        rw [List.getElem?_set_ne n2] at e4
        cases e3
        exact absurd e4 (ow q l' (Ne.symm n2) e2)
    · rcases get_set e2 with ⟨rfl, _, _⟩ | ⟨n2, e2⟩
      · rw [List.getElem?_set_self hσ] at e4
        rw [List.getElem?_set_ne n1] at e3
        cases e4
        exact absurd e3 (ow p l (Ne.symm n1) e1)
      · rw [List.getElem?_set_ne n1] at e3
        rw [List.getElem?_set_ne n2] at e4
        exact R.dis p q l l' c e1 e2 e3 e4
/-- an own list changes -/
theorem Rel.ownUpd {i : Nat} {l l' : Ob} {a : Addr} {ys : HO} (R : Rel K F G θ s σ H) (e : s.env[i]? = some (.own l)) (ea : σ[i]? = some (some (.ref a))) (r : RpB K F θ a l' ys) : Rel K F G θ ⟨s.env.set i (.own l'), s.mem⟩ σ (upd H a ys) := by
  obtain ⟨xs, h, f, g, t, _⟩ := R.ownAt e ea
  have hi : i < s.env.length := (List.getElem?_eq_some_iff.mp e).1
  refine ⟨⟨fun b u q => ?_, fun b u q => ?_, R.m.fg, R.m.len, R.m.nd, R.m.gt, fun b hb => ?_, fun n u q hu => ?_⟩, by simpa using R.len, fun j x q => ?_, fun p q l1 l2 c e1 e2 e3 e4 => ?_⟩
  · rw [upd_ne (ne_of_none q f)]; exact R.m.fle b u q
  · rw [upd_ne (ne_of_none q g)]; exact R.m.gle b u q
  · obtain ⟨o, ho⟩ := R.m.al b hb
    exact ⟨o, by rw [upd_ne (fun z : b = a => t (by rw [← z]; exact hb))]; exact ho⟩
  · obtain ⟨b, h1, h2, h3, h4⟩ := R.m.ob n u q hu
    have ne : b ≠ a := fun z => t (z ▸ List.mem_of_getElem? h1)
    exact ⟨b, h1, h2, h3, by rw [upd_ne ne]; exact h4⟩
  · rcases get_set q with ⟨rfl, rfl, _⟩ | ⟨ne, q⟩
    · exact ⟨a, ys, ea, upd_same, f, g, t, r⟩
    · have rr := R.slot j x q
      cases x with
      | none => exact rr
      | val t => exact rr
      | own m =>
        obtain ⟨b, zs, e1, h1, f1, g1, t1, q1⟩ := rr
        have nb : b ≠ a := fun z => ne (R.dis i j l m a e q ea (z ▸ e1))
        exact ⟨b, zs, e1, by rw [upd_ne nb]; exact h1, f1, g1, t1, q1⟩
  · have g1 : ∃ m, s.env[p]? = some (.own m) := by
      rcases get_set e1 with ⟨rfl, _, _⟩ | ⟨_, z⟩
      · exact ⟨_, e⟩
      · exact ⟨_, z⟩
    have g2 : ∃ m, s.env[q]? = some (.own m) := by
      rcases get_set e2 with ⟨rfl, _, _⟩ | ⟨_, z⟩
      · exact ⟨_, e⟩
      · exact ⟨_, z⟩
    obtain ⟨m1, z1⟩ := g1
    obtain ⟨m2, z2⟩ := g2
    exact R.dis p q m1 m2 c z1 z2 e3 e4
/-- an own list becomes a value -/
theorem Rel.freeze {i : Nat} {l : Ob} {a : Addr} {xs : HO} (R : Rel K F G θ s σ H) (e : s.env[i]? = some (.own l)) (ea : σ[i]? = some (some (.ref a))) (h : H a = some xs) (r : RpB K F θ a l xs) :
    Rel K (upd F a xs) G θ ⟨s.env.set i (.val l.tr), s.mem⟩ σ H := by
  obtain ⟨_, _, f, g, t, _⟩ := R.ownAt e ea
  have R1 : Rel K F G θ ⟨s.env.set i .none, s.mem⟩ σ H := by
    refine ⟨R.m, by simpa using R.len, fun j x q => ?_, fun p q l1 l2 c e1 e2 e3 e4 => ?_⟩
    · rcases get_set q with ⟨rfl, rfl, _⟩ | ⟨ne, q⟩
      · exact trivial
      · exact R.slot j x q
    · rcases get_set e1 with ⟨_, z, _⟩ | ⟨n1, e1⟩
      · cases z
      · rcases get_set e2 with ⟨_, z, _⟩ | ⟨n2, e2⟩
        · cases z
        · exact R.dis p q l1 l2 c e1 e2 e3 e4
  have R2 := R1.fix h f g t fun j m q z => by
    rcases get_set q with ⟨_, w, _⟩ | ⟨ne, q⟩
    · cases w
    · exact ne (R.dis i j l m a e q ea z)
  refine ⟨R2.m, by simpa using R.len, fun j x q => ?_, fun p q l1 l2 c e1 e2 e3 e4 => ?_⟩
  · rcases get_set q with ⟨rfl, rfl, hi⟩ | ⟨ne, q⟩
    · exact ⟨_, ea, (r.mono (FLe.upd1 f) (List.prefix_refl _)).rp upd_same⟩
    · exact R2.slot j x (by show (s.env.set i .none)[j]? = _; rw [List.getElem?_set_ne ne]; exact q)
  · rcases get_set e1 with ⟨_, z, _⟩ | ⟨n1, e1⟩
    · cases z
    · rcases get_set e2 with ⟨_, z, _⟩ | ⟨n2, e2⟩
      · cases z
      · exact R.dis p q l1 l2 c e1 e2 e3 e4
/-- a new shared object -/
theorem Rel.share {p : Addr} {l : Ob} {xs : HO} (R : Rel K F G θ s σ H) (n : H p = none) (r : RpB K F θ p l xs) : Rel K F G (θ ++ [p]) ⟨s.env, s.mem ++ [l]⟩ σ (upd H p xs) := by
  have J := R.junk (o := xs) n
  have np : p ∉ θ := R.m.noTh n
  have pre : θ <+: θ ++ [p] := List.prefix_append _ _
  refine ⟨⟨J.m.fle, J.m.gle, J.m.fg, by rw [List.length_append, List.length_append, R.m.len]; rfl, ?_, fun a o e hm => ?_, fun a hm => ?_, fun k o e hg => ?_⟩, R.len, fun i x e => ?_, R.dis⟩
  · rw [List.nodup_append]
    exact ⟨R.m.nd, by simp, fun a ha b hb => by simp at hb; subst hb; exact fun z => np (z ▸ ha)⟩
  · rcases List.mem_append.mp hm with z | z
    · exact J.m.gt a o e z
    · simp at z
      subst z
      have := R.m.gle _ _ e
      rw [n] at this
      cases this
  · rcases List.mem_append.mp hm with z | z
    · exact J.m.al a z
    · simp at z
      subst z
      exact ⟨_, upd_same⟩
  · by_cases hk : k < s.mem.length
    · rw [List.getElem?_append_left hk] at e
      obtain ⟨a, h1, h2, h3, h4⟩ := J.m.ob k o e hg
      obtain ⟨zs, q, rz⟩ := h4
      exact ⟨a, pre_get pre h1, h2, h3, zs, q, rz.mono (FLe.refl _) pre⟩
    · rw [List.getElem?_append_right (by omega)] at e
      have e0 : k - s.mem.length = 0 := by
        rcases Nat.eq_zero_or_pos (k - s.mem.length) with z | z
        · exact z
        · rw [List.getElem?_eq_none (by simp; omega)] at e; cases e
      rw [e0] at e
      cases e
      have ek : k = θ.length := by rw [← R.m.len]; omega
      subst ek
      refine ⟨p, by simp, R.m.fle.none n, R.m.gle.none n, xs, upd_same, r.mono (FLe.refl _) pre⟩
  · have rr := J.slot i x e
    cases x with
    | none => exact rr
    | val t => obtain ⟨y, e1, q⟩ := rr; exact ⟨y, e1, q.mono (FLe.refl _) pre⟩
    | own m =>
      obtain ⟨a, zs, e1, h, f, g, t, q⟩ := rr
      refine ⟨a, zs, e1, h, f, g, ?_, q.mono (FLe.refl _) pre⟩
      rw [List.mem_append]
      rintro (z | z)
      · exact t z
      · simp at z
        subst z
        obtain ⟨b, ws, e2, h2, _⟩ := R.slot i _ e
        rw [e1] at e2
        cases e2
        rw [n] at h2
        cases h2
/-- a shared list changes -/
theorem Rel.memUpd {n : Nat} {l l' : Ob} {a : Addr} {ys : HO} (R : Rel K F G θ s σ H) (e : s.mem[n]? = some l) (hl : l ≠ .gone) (ea : θ[n]? = some a) (r : RpB K F θ a l' ys) : Rel K F G θ ⟨s.env, s.mem.set n l'⟩ σ (upd H a ys) := by
  obtain ⟨b, h1, f, g, xs, h, rx⟩ := R.m.ob n _ e hl
  rw [ea] at h1
  cases h1
  have hn : n < s.mem.length := (List.getElem?_eq_some_iff.mp e).1
  refine ⟨⟨fun b u q => ?_, fun b u q => ?_, R.m.fg, by simpa using R.m.len, R.m.nd, R.m.gt, fun b hb => ?_, fun k u q hu => ?_⟩, R.len, fun j x q => ?_, R.dis⟩
  · rw [upd_ne (ne_of_none q f)]; exact R.m.fle b u q
  · rw [upd_ne (ne_of_none q g)]; exact R.m.gle b u q
  · by_cases z : b = a
    · subst z; exact ⟨_, upd_same⟩
    · obtain ⟨o, ho⟩ := R.m.al b hb
      exact ⟨o, by rw [upd_ne z]; exact ho⟩
  · rcases get_set q with ⟨rfl, rfl, _⟩ | ⟨ne, q⟩
    · exact ⟨a, ea, f, g, ys, upd_same, r⟩
    · obtain ⟨b, q1, q2, q3, q4⟩ := R.m.ob k u q hu
      have nb : b ≠ a := fun z => by
        subst z
        have hk : k < θ.length := (List.getElem?_eq_some_iff.mp q1).1
        have hn' : n < θ.length := (List.getElem?_eq_some_iff.mp ea).1
        have e1 := (List.getElem?_eq_some_iff.mp q1).2
        have e2 := (List.getElem?_eq_some_iff.mp ea).2
        exact ne ((List.getElem_inj R.m.nd).mp (e2.trans e1.symm))
      exact ⟨b, q1, q2, q3, by rw [upd_ne nb]; exact q4⟩
  · have rr := R.slot j x q
    cases x with
    | none => exact rr
    | val t => exact rr
    | own m =>
      obtain ⟨b, zs, e1, h1, f1, g1, t1, q1⟩ := rr
      have nb : b ≠ a := fun z => t1 (z ▸ List.mem_of_getElem? ea)
      exact ⟨b, zs, e1, by rw [upd_ne nb]; exact h1, f1, g1, t1, q1⟩

/-- a shared thing becomes one that stays -/
theorem Rel.memGone {n : Nat} {l : Ob} {a : Addr} {xs : HO} (R : Rel K F G θ s σ H) (e : s.mem[n]? = some l) (hl : l ≠ .gone) (ea : θ[n]? = some a) (h : H a = some xs) : Rel K (upd F a xs) G θ ⟨s.env, s.mem.set n .gone⟩ σ H := by
  obtain ⟨b, h1, f, g, ys, h', rx⟩ := R.m.ob n _ e hl
  rw [ea] at h1
  cases h1
  have le : FLe F (upd F a xs) := FLe.upd1 f
  refine ⟨⟨fun b u q => ?_, R.m.gle, fun b u q => ?_, by simpa using R.m.len, R.m.nd, R.m.gt, R.m.al, fun k u q hu => ?_⟩, R.len, fun i x q => ?_, R.dis⟩
  · by_cases z : b = a
    · subst z; rw [upd_same] at q; cases q; exact h
    · rw [upd_ne z] at q; exact R.m.fle b u q
  · rw [upd_ne (ne_of_none q g)]
    exact R.m.fg b u q
  · rcases get_set q with ⟨rfl, rfl, _⟩ | ⟨ne, q⟩
    · exact absurd rfl hu
    · obtain ⟨b, q1, q2, q3, q4⟩ := R.m.ob k u q hu
      have nb : b ≠ a := fun z => by
        subst z
        have e1 := (List.getElem?_eq_some_iff.mp q1).2
        have e2 := (List.getElem?_eq_some_iff.mp ea).2
        exact ne ((List.getElem_inj R.m.nd).mp (e2.trans e1.symm))
      obtain ⟨zs, q5, q6⟩ := q4
      exact ⟨b, q1, by rw [upd_ne nb]; exact q2, q3, zs, q5, q6.mono le (List.prefix_refl _)⟩
  · have rr := R.slot i x q
    cases x with
    | none => exact rr
    | val t => obtain ⟨y, e1, q⟩ := rr; exact ⟨y, e1, q.mono le (List.prefix_refl _)⟩
    | own m =>
      obtain ⟨b, zs, e1, h1, f1, g1, t1, q1⟩ := rr
      have nb : b ≠ a := fun z => t1 (z ▸ List.mem_of_getElem? ea)
      exact ⟨b, zs, e1, h1, by rw [upd_ne nb]; exact f1, g1, t1, q1.mono le (List.prefix_refl _)⟩

/-! ### targets -/
theorem wipe_set {i : Nat} {x : Option V} : ∀ {vs : List Nat} {σ : St}, i ∈ vs → wipe (σ.set i x) vs = wipe σ vs
  | v :: vs, σ, h => by
    unfold wipe
    by_cases hi : i ∈ vs
    · rw [wipe_set hi]
    · have e : i = v := by
        rcases List.mem_cons.mp h with z | z
        · exact z
        · exact absurd z hi
      subst e
      have : ∀ {ws : List Nat} {τ : St}, (wipe (τ.set i x) ws).set i none = (wipe τ ws).set i none := by
        intro ws
        induction ws with
        | nil =>
          intro τ
          show (τ.set i x).set i none = τ.set i none
          rw [List.set_set]
        | cons w ws ih =>
          intro τ
          show ((wipe (τ.set i x) ws).set w none).set i none = ((wipe τ ws).set w none).set i none
          by_cases hw : w = i
          · subst hw
            rw [ih]
          · rw [List.set_comm _ _ hw, List.set_comm _ _ hw, ih]
      exact this
noncomputable def RG (K : Mx) (tg : Tg) : TG := fun v σ H Q => ∃ F G θ env m t env', Rel K F G θ ⟨env, m⟩ σ H ∧ Rp K F θ t v ∧ asg tg t env = some env' ∧
  ∀ σ', Rel K F G θ ⟨env', m⟩ σ' H → (∀ vs, tgIn vs tg = true → wipe σ' vs = wipe σ vs) → Q σ' H
noncomputable def RGs (K : Mx) (tgs : List Tg) : TGs := fun xs σ H Q => ∃ F G θ env m l env', Rel K F G θ ⟨env, m⟩ σ H ∧ Rps K F θ l xs ∧ asgs tgs l env = some env' ∧
  ∀ σ', Rel K F G θ ⟨env', m⟩ σ' H → (∀ vs, tgsIn vs tgs = true → wipe σ' vs = wipe σ vs) → Q σ' H
theorem assignEach_cons {e : Expr} {es : List Expr} {env : Env} (h : isStar e = false) : assignEach (e :: es) env = (false, assign e env) :: assignEach es env := by
  cases e <;> first | rfl | (exact nomatch h)
theorem chkTs_len {N : List Str} {sc : Scope} {env : Env} : ∀ {gs : List Tg} {es : List Expr}, chkTs N sc gs es = true → (assignEach es env).length = gs.length ∧ (assignEach es env).findIdx? (·.1) = none
  | [], es, h => by
    cases es with
    | nil => exact ⟨rfl, rfl⟩
    | cons _ _ => exact nomatch h
  | g :: gs, es, h => by
    cases es with
    | nil => exact nomatch h
    | cons e es =>
      simp only [chkTs] at h
      obtain ⟨h1, h2⟩ := and2 h
      obtain ⟨h1, h3⟩ := and2 h1
      rw [assignEach_cons (by simpa using h1)]
      obtain ⟨q1, q2⟩ := chkTs_len (env := env) h2
      refine ⟨by rw [List.length_cons, List.length_cons, q1], ?_⟩
      rw [List.findIdx?_cons]
      simp [q2]
theorem asgs_len : ∀ {gs : List Tg} {l : List Tr} {env env' : List Slot}, asgs gs l env = some env' → l.length = gs.length
  | [], [], _, _, _ => rfl
  | [], _ :: _, _, _, h => by simp only [asgs] at h; cases h
  | _ :: _, [], _, _, h => by simp only [asgs] at h; cases h
  | g :: gs, t :: l, env, env', h => by
    simp only [asgs] at h
    cases e : asg g t env with
    | none => rw [e] at h; cases h
    | some env1 =>
      rw [e] at h
      rw [List.length_cons, List.length_cons, asgs_len h]
mutual
theorem sT {cl : List Str} {X : Cx} (hN : X.N.Nodup) (hc : X.calm = true) {sc : Scope} (loc : ∀ x, locB sc x = true → Loc X.env.scope x ∧ (X.fn x = true ∨ X.env.scope.names.lookup x = some .local)) : ∀ (tg : Tg) (ex : Expr), chkT X.N sc tg ex = true → PG X ex (RG (MX cl X) tg)
  | .nm i, ex, h => by
    simp only [chkT] at h
    split at h
    · rename_i x pos
      obtain ⟨h1, h2⟩ := and2 h
      have h1 := of_decide_eq_true h1
      obtain ⟨hl, hf⟩ := loc x h2
      refine ⟨fun pins s0 σ H v u Q I r q => ?_⟩
      obtain ⟨F, G, θ, env, m, t, env', R, rt, e, k⟩ := q
      simp only [asg] at e
      split at e
      · rename_i hh
        obtain ⟨h3, h4⟩ := and2 hh
        cases e
        refine (pg_name (i := i) hN h1 hl hf).run pins s0 σ H v u Q I r ?_
        refine k _ (R.store rt (of_decide_eq_true h4)) fun vs hv => ?_
        simp only [tgIn] at hv
        exact wipe_set (List.contains_iff_mem.mp hv)
      · cases e
    · cases h
  | .tp gs, ex, h => by
    simp only [chkT] at h
    split at h
    · rename_i es kk pos
      have hg := sTs (cl := cl) hN hc loc gs es h
      obtain ⟨q1, q2⟩ := chkTs_len (env := X.env) h
      refine ⟨fun pins s0 σ H v u Q I r q => ?_⟩
      obtain ⟨F, G, θ, env, m, t, env', R, rt, e, k⟩ := q
      cases t with
      | tup l =>
        simp only [asg] at e
        cases rt with
        | tup hq hr =>
          refine (pg_tup (n := gs.length) hc hg q1 q2).run pins s0 σ H _ u Q I r ⟨_, _, rfl, R.m.fle.tup hq, ?_, F, G, θ, env, m, l, env', R, hr, e, fun σ' R' w => k σ' R' fun vs hv => w vs (by simpa only [tgIn] using hv)⟩
          rw [hr.length, asgs_len e]
      | _ => simp only [asg] at e; cases e
    · cases h
theorem sTs {cl : List Str} {X : Cx} (hN : X.N.Nodup) (hc : X.calm = true) {sc : Scope} (loc : ∀ x, locB sc x = true → Loc X.env.scope x ∧ (X.fn x = true ∨ X.env.scope.names.lookup x = some .local)) : ∀ (tgs : List Tg) (es : List Expr), chkTs X.N sc tgs es = true → PGs X es (RGs (MX cl X) tgs)
  | [], es, h => by
    cases es with
    | cons _ _ => exact nomatch h
    | nil =>
      refine ⟨fun pins s0 σ H vs us Q I r q => ?_⟩
      obtain ⟨F, G, θ, env, m, l, env', R, rl, e, k⟩ := q
      cases l with
      | nil =>
        cases rl
        simp only [asgs] at e
        cases e
        exact pgs_nil.run pins s0 σ H [] us Q I r ⟨rfl, k σ R fun _ _ => rfl⟩
      | cons _ _ => simp only [asgs] at e; cases e
  | g :: gs, es, h => by
    cases es with
    | nil => exact nomatch h
    | cons x xs =>
      simp only [chkTs] at h
      obtain ⟨h1, h2⟩ := and2 h
      obtain ⟨h1, h3⟩ := and2 h1
      have g1 := sT (cl := cl) hN hc loc g x h3
      have g2 := sTs (cl := cl) hN hc loc gs xs h2
      refine ⟨fun pins s0 σ H vs us Q I r q => ?_⟩
      obtain ⟨F, G, θ, env, m, l, env', R, rl, e, k⟩ := q
      cases l with
      | nil => simp only [asgs] at e; cases e
      | cons t l =>
        simp only [asgs] at e
        cases e1 : asg g t env with
        | none => rw [e1] at e; cases e
        | some env1 =>
          rw [e1] at e
          cases rl with
          | cons r1 r2 =>
            refine (pgs_cons g1 g2 (by rw [assignEach_cons (by simpa using h1)]; rfl)).run pins s0 σ H _ us Q I r ⟨_, _, rfl, F, G, θ, env, m, t, env1, R, r1, e1, fun σ1 R1 w1 => ?_⟩
            refine ⟨F, G, θ, env1, m, l, env', R1, r2, e, fun σ2 R2 w2 => k σ2 R2 fun vs hv => ?_⟩
            simp only [tgsIn] at hv
            obtain ⟨v1, v2⟩ := and2 hv
            exact (w2 vs v2).trans (w1 vs v1)
end
/-! ### guards -/
theorem RelM.gth {m : List Ob} (M : RelM K F G θ m H) {a : Addr} {o : HO} (e : G a = some o) : a ∉ θ := M.gt a o e
theorem RelM.junk {m : List Ob} {p : Addr} {o : HO} (R : RelM K F G θ m H) (n : H p = none) : RelM K F G θ m (upd H p o) := by
  refine ⟨R.fle.new n, R.gle.new n, R.fg, R.len, R.nd, R.gt, fun a ha => ?_, fun k u e hu => ?_⟩
  · obtain ⟨o, ho⟩ := R.al a ha
    exact ⟨o, by rw [upd_ne (ne_of_none ho n)]; exact ho⟩
  · obtain ⟨a, h1, h2, h3, h4⟩ := R.ob k u e hu
    refine ⟨a, h1, h2, h3, ?_⟩
    obtain ⟨xs, q, r⟩ := h4
    exact ⟨xs, by rw [upd_ne (ne_of_none q n)]; exact q, r⟩
/-- one more thing is guarded -/
theorem RelM.guard {m : List Ob} {D : Addr} {o : HO} (R : RelM K F G θ m H) (h : H D = some o) (f : F D = none) (t : D ∉ θ) : RelM K F (upd G D o) θ m H := by
  refine ⟨R.fle, fun a u e => ?_, fun a u e => ?_, R.len, R.nd, fun a u e => ?_, R.al, fun k u e hu => ?_⟩
  · by_cases z : a = D
    · subst z; rw [upd_same] at e; cases e; exact h
    · rw [upd_ne z] at e; exact R.gle a u e
  · by_cases z : a = D
    · subst z; exact f
    · rw [upd_ne z] at e; exact R.fg a u e
  · by_cases z : a = D
    · subst z; exact t
    · rw [upd_ne z] at e; exact R.gt a u e
  · obtain ⟨a, h1, h2, h3, h4⟩ := R.ob k u e hu
    have ne : a ≠ D := fun z => t (z ▸ List.mem_of_getElem? h1)
    exact ⟨a, h1, h2, by rw [upd_ne ne]; exact h3, h4⟩
/-- it is let go and changed -/
theorem RelM.unguard {m : List Ob} {D : Addr} {o o' : HO} (R : RelM K F (upd G D o) θ m H) (g : G D = none) : RelM K F G θ m (upd H D o') := by
  have f : F D = none := R.fg D o upd_same
  have t : D ∉ θ := R.gth upd_same
  refine ⟨fun a u e => ?_, fun a u e => ?_, fun a u e => ?_, R.len, R.nd, fun a u e => R.gt a u (by rw [upd_ne (ne_of_none e g)]; exact e), fun a ha => ?_, fun k u e hu => ?_⟩
  · rw [upd_ne (ne_of_none e f)]; exact R.fle a u e
  · have ne : a ≠ D := ne_of_none e g
    rw [upd_ne ne]
    exact R.gle a u (by rw [upd_ne ne]; exact e)
  · exact R.fg a u (by rw [upd_ne (ne_of_none e g)]; exact e)
  · obtain ⟨o2, ho⟩ := R.al a ha
    exact ⟨o2, by rw [upd_ne (fun z : a = D => t (by rw [← z]; exact ha))]; exact ho⟩
  · obtain ⟨a, h1, h2, h3, h4⟩ := R.ob k u e hu
    have ne : a ≠ D := fun z => t (z ▸ List.mem_of_getElem? h1)
    exact ⟨a, h1, h2, by rw [upd_ne ne] at h3; exact h3, by rw [upd_ne ne]; exact h4⟩
theorem RelM.letgo {m : List Ob} {D : Addr} {o : HO} (R : RelM K F (upd G D o) θ m H) (g : G D = none) : RelM K F G θ m H := by
  refine ⟨R.fle, fun a u e => R.gle a u (by rw [upd_ne (ne_of_none e g)]; exact e), fun a u e => R.fg a u (by rw [upd_ne (ne_of_none e g)]; exact e), R.len, R.nd, fun a u e => R.gt a u (by rw [upd_ne (ne_of_none e g)]; exact e), R.al, fun k u e hu => ?_⟩
  obtain ⟨a, h1, h2, h3, h4⟩ := R.ob k u e hu
  have ne : a ≠ D := fun z => R.gth (a := D) upd_same (z ▸ List.mem_of_getElem? h1)
  exact ⟨a, h1, h2, by rw [upd_ne ne] at h3; exact h3, h4⟩
/-- one more thing is guarded -/
theorem Rel.guard {p : Addr} {o : HO} (R : Rel K F G θ s σ H) (h : H p = some o) (f : F p = none) (t : p ∉ θ) (ow : ∀ (i : Nat) (l : Ob), s.env[i]? = some (Slot.own l) → σ[i]? ≠ some (some (V.ref p))) : Rel K F (upd G p o) θ s σ H := by
  refine ⟨R.m.guard h f t, R.len, fun i x e => ?_, R.dis⟩
  have r := R.slot i x e
  cases x with
  | none => exact r
  | val t => exact r
  | own l =>
    obtain ⟨a, xs, e1, h1, f1, g1, t1, q⟩ := r
    have ne : a ≠ p := fun z => ow i l e (z ▸ e1)
    exact ⟨a, xs, e1, h1, f1, by rw [upd_ne ne]; exact g1, t1, q⟩
/-- a fresh thing is laid and guarded -/
theorem Rel.pend {p : Addr} {o : HO} (R : Rel K F G θ s σ H) (n : H p = none) : Rel K F (upd G p o) θ s σ (upd H p o) := by
  refine (R.junk (o := o) n).guard upd_same (R.m.fle.none n) (R.m.noTh n) fun i l e z => ?_
  obtain ⟨zs, q, _⟩ := R.ownAt e z
  rw [n] at q
  cases q
/-- a guarded thing is let go, changed, and stays -/
theorem Rel.pendDone {p : Addr} {o o' : HO} (R : Rel K F (upd G p o) θ s σ H) (g : G p = none) : Rel K (upd F p o') G θ s σ (upd H p o') := by
  have f : F p = none := R.m.fg p o upd_same
  have t : p ∉ θ := R.m.gt p o upd_same
  have ow : ∀ (i : Nat) (l : Ob), s.env[i]? = some (Slot.own l) → σ[i]? ≠ some (some (V.ref p)) := fun i l e z => by
    obtain ⟨zs, _, _, q, _⟩ := R.ownAt e z
    rw [upd_same] at q
    cases q
  have R2 : Rel K F G θ s σ (upd H p o') := by
    refine ⟨R.m.unguard g, R.len, fun i x e => ?_, R.dis⟩
    have r := R.slot i x e
    cases x with
    | none => exact r
    | val t => exact r
    | own l =>
      obtain ⟨a, xs, e1, h1, f1, g1, t1, q⟩ := r
      have ne : a ≠ p := fun z => ow i l e (z ▸ e1)
      exact ⟨a, xs, e1, by rw [upd_ne ne]; exact h1, f1, by rw [upd_ne ne] at g1; exact g1, t1, q⟩
  exact R2.fix upd_same f g t ow
end Ev
/-! enumerate over a tuple. -/
namespace Ev
open PySem PySem.Spec L2
theorem meets_enumT (l : Addr) (items : Array Value) :
    Meets (Builtin.«enumerate.__new__» ⟨[.type "enumerate", .ref l], []⟩) (fun _ R s => s.heap.IsTuple l items ∧
      R (.ok (.ret (.ref (s.heap.push { cls := .type "tuple_iterator", data := .fields #[.ref l, .int 0 0] }).objs.size)))
        { s with heap := (s.heap.push { cls := .type "tuple_iterator", data := .fields #[.ref l, .int 0 0] }).push { cls := .type "enumerate", data := .fields #[.none, .bool false, .ref s.heap.objs.size, rawInt 0, .none, .none] } }) :=
  .of_wp fun prog w A R s h => by
    obtain ⟨hp, g, d, tk, os⟩ := s; obtain ⟨hL, h⟩ := h
    have hsub := sub_enumerate
    have q1 : ∀ {A' : Around} {E : Value → Shared → Prop} {Q : Value → Shared → Prop}, Q (.ref hp.objs.size) ⟨hp.push { cls := .type "tuple_iterator", data := .fields #[.ref l, .int 0 0] }, g, d, tk, os⟩ → wpAny (model prog w) A' (pyIter (.ref l)) Q E ⟨hp, g, d, tk, os⟩ :=
      fun q => wpAny_pyIter_tuple hL q
    wp_walk using q1
    refine wpAny_stack_any fun st => wpAny_pure ?_
    split
    · rename_i c _ _ _ _ _
      cases (c == Value.type "enumerate")
      · wp_walk using q1
        exact ⟨_, rfl, h⟩
      · wp_walk using q1
        exact ⟨_, rfl, h⟩
    · wp_walk using q1
      exact ⟨_, rfl, h⟩
section
variable {prog : Program} {w : World} {A : Around} {E : Value → Shared → Prop} {s : Shared}
theorem call_enumT {l : Addr} {items : Array Value} {Q : Value → Shared → Prop} (hL : s.heap.IsTuple l items)
    (h : ∀ h', IsEnum h' (s.heap.objs.size + 1) s.heap.objs.size 0 .none → h'.IsTupleIter s.heap.objs.size l 0 → h'.objs.size = s.heap.objs.size + 2 →
      (∀ b o, s.heap.get? b = some o → h'.get? b = some o) → Q (.ref (s.heap.objs.size + 1)) { s with heap := h' }) :
    wpAny (model prog w) A (call (.type "enumerate") [.ref l]) Q E s := by
  refine callType_new F.called_enumerate (by decide) (F.typeCall_enumerate_1 _) (F.newCall_enumerate_1 _) (fun obj => F.args_object_init_2 obj _) F.entry_enumerate_new
    (meets_enumT l items) ⟨hL, ?_⟩
  have hz : (s.heap.push { cls := .type "tuple_iterator", data := .fields #[.ref l, .int 0 0] }).objs.size = s.heap.objs.size + 1 := Heap.size_push ..
  show _ ∧ _
  rw [hz]
  have he : IsEnum ((s.heap.push { cls := .type "tuple_iterator", data := .fields #[.ref l, .int 0 0] }).push
      { cls := .type "enumerate", data := .fields #[.none, .bool false, .ref s.heap.objs.size, rawInt 0, .none, .none] }) (s.heap.objs.size + 1) s.heap.objs.size 0 .none := by
    have := Heap.get?_push_size (s.heap.push { cls := .type "tuple_iterator", data := .fields #[.ref l, .int 0 0] })
      (o := { cls := .type "enumerate", data := .fields #[.none, .bool false, .ref s.heap.objs.size, rawInt 0, .none, .none] }) rfl
    rw [hz] at this; exact this
  refine ⟨⟨_, he, rfl⟩, h _ he ⟨_, Heap.get?_push_of_some _ (Heap.get?_push_size _ rfl), rfl, rfl⟩ (by rw [Heap.size_push, hz]) fun b o x => Heap.get?_push_of_some _ (Heap.get?_push_of_some _ x)⟩
end
noncomputable def IteT (K : PySem.W.Frag) (a : Addr) : It :=
  ⟨fun i H => ∃ (xs : List V) (x : V), SqT K H a xs ∧ xs[i]? = some x, fun i H v H' => ∃ T x, v = .ref T ∧ H T = none ∧ H' = upd H T (.tup [.int (i : Nat), x]) ∧ ∀ xs, SqT K H a xs → xs[i]? = some x, fun i H => ∃ xs : List V, SqT K H a xs ∧ xs.length ≤ i⟩
theorem turn_enumT {P : Program} {w : World} {K : PySem.W.Frag} {elts : List Expr} {kk : Nat} {tpos : Pos} (a e it : Addr) :
    Turn P w K (.Tuple elts kk tpos) (IteT K a) [e, it] e (fun i h => (∃ old, IsEnum h e it ((i : Nat) : Int) old) ∧ h.IsTupleIter it a i ∧ e ≠ it) where
  mem := by simp
  obj := fun i h st b hb => by
    obtain ⟨⟨old, he⟩, ⟨o, ho, hc, hd⟩, _⟩ := st
    have e' : b = e ∨ b = it := by simpa using hb
    rcases e' with z | z
    · rw [z]; exact ⟨_, he, fun v q => nomatch q⟩
    · rw [z]; exact ⟨o, ho, fun v q => by rw [hd] at q; cases q⟩
  keep := fun i h h' st k => let ⟨⟨old, he⟩, hi, hne⟩ := st; ⟨⟨old, k e (by simp) _ he⟩, hi.at fun o q => k it (by simp) o q, hne⟩
  item := by
    intro X hP hw hK hc i pins s σ H E I hf st hg
    subst hP hw hK
    obtain ⟨⟨old, he⟩, hit, hne⟩ := st
    obtain ⟨xs, x, hq, hx⟩ := hg
    obtain ⟨its, rv, p, hz⟩ := I.tuple hq
    obtain ⟨u, hu, ru⟩ := rv.get hx
    have hT0 : s.heap.IsTuple a its.toArray := p
    have hel : e < s.heap.objs.size := Heap.lt_size he
    have hil : it < s.heap.objs.size := by obtain ⟨_, q, _⟩ := hit; exact Heap.lt_size q
    have hal : a ≠ it := by
      rintro rfl
      obtain ⟨o1, q1, c1, _⟩ := hit
      obtain ⟨o2, q2, c2, _⟩ := hT0
      rw [q1] at q2
      cases q2
      rw [c1] at c2
      exact absurd c2 (by decide +kernel)
    have hae : e ≠ a := by
      rintro rfl
      obtain ⟨o2, q2, c2, _⟩ := hT0
      have : some _ = some o2 := he.symm.trans q2
      cases this
      have c3 : Value.type "enumerate" = Value.type "tuple" := c2
      exact absurd c3 (by decide +kernel)
    have hlt : i < its.toArray.size := by
      have := (List.getElem?_eq_some_iff.mp hu).1
      simpa using this
    refine wpAny_pyNext_enum_itemD (Draws.tuple (A := X.A.in1) (show X.A.in1.handled = none from I.ok.hd hc) it a hal its.toArray) he ⟨hit, hT0⟩ hlt hne (by simp [hne, hae]) fun u' h' tk hP ho hs' hT hsz hk => ?_
    obtain rfl : u = u' := by
      have : its[i]? = some u' := by simpa using hP
      rw [hu] at this
      exact Option.some.inj this
    obtain ⟨hit', _⟩ := hs'
    refine ⟨_, rfl, wpAny_letOwnedTupleGo_enum (s := { s with heap := h', toks := tk + 1 }) ho fun h'' he' sb => ?_⟩
    have hT2 : h''.get? s.heap.objs.size = some { cls := .type "tuple", data := .seq #[.int i tk, u] } := (sb.2 _ (Nat.ne_of_gt hel)).trans hT
    have new : ObjOk X.prog X.w (upd H s.heap.objs.size (.tup [.int (i : Nat), x])) h'' s.heap.objs.size (.tup [.int (i : Nat), x]) :=
      ⟨by show 2 ≤ sizeLine; decide, [.int i tk, u], .cons ⟨_, rfl⟩ (.cons ru .nil), ⟨_, hT2, rfl, _, rfl⟩⟩
    have I1 : Inv X pins σ (upd H s.heap.objs.size (.tup [.int (i : Nat), x])) { s with heap := h'', toks := tk + 1 } :=
      I.turnedNew (ch := [e, it]) (fun b ob hb q => (sb.2 b (fun z => hb (by simp [z]))).trans (hk b ob (fun z => hb (by simp [z])) (fun z => hb (by simp [z])) q)) hf (Nat.le_refl _) new
    refine ⟨.ref s.heap.objs.size, _, I1, rfl, ⟨_, x, rfl, I.hok.fresh (Nat.le_refl _), rfl, fun ys hy => ?_⟩, ⟨⟨u, ?_⟩, hit'.at fun o q => (sb.2 it (Ne.symm hne)).trans q, hne⟩, fun b hb => ?_⟩
    · rw [I.tuple_inj hy hq]; exact hx
    · have e1 : ((i + 1 : Nat) : Int) = (i : Int) + 1 := by omega
      rw [e1]; exact he'
    · have hb' : b < s.heap.objs.size := by
        have e' : b = e ∨ b = it := by simpa using hb
        rcases e' with z | z
        · rw [z]; exact hel
        · rw [z]; exact hil
      rw [upd_ne (Nat.ne_of_lt hb')]
      exact (hf b hb).1
  done := by
    intro X hP hw hK hc i pins s σ H E I hf st hg
    subst hP hw hK
    obtain ⟨⟨old, he⟩, hit, hne⟩ := st
    obtain ⟨xs, hq, hx⟩ := hg
    obtain ⟨its, rv, p, hz⟩ := I.tuple hq
    have hT0 : s.heap.IsTuple a its.toArray := p
    obtain ⟨f0, f1, f2, f3, f4, f5⟩ := hf it (by simp)
    have hl := rv.length
    have hT : s.TypeIs (.ref e) "enumerate" := ⟨_, he, rfl⟩
    unfold pyNext
    refine wpAny_bind (wpAny_attempt (wpAny_callSpecial?_slot (name := Str.ofString "__next__") hT F.slot_enumerate_next
      (wpAny_call_entry F.slot_enumerate_next hT F.entry_enumerate_next ?_ (F.args_enumerate_next_1 _))))
    show wpAny _ _ (field (.ref e) 2 >>= _) _ _ _
    refine wpAny_bind (wpAny_field he rfl (x := .ref it) rfl ?_)
    refine wpAny_bind (RZ.nextOf_tuple_end (I.ok.hd hc) hit hT0 (by simp; omega) fun h' x he' hx' => ?_)
    obtain ⟨o, ho, hc⟩ := hx'
    refine wpAny_bind (wpAny_isInstance (T := "StopIteration") (b := true) ⟨o, ho, hc⟩ isSubtype_stop ?_)
    exact wpAny_pure ⟨rfl, I.turned (t' := s.toks) (fun b o hb q => he' b o hb q) f0 f1 f3 f4 f5⟩
  self := fun A i s Q E st h => let ⟨⟨_, he⟩, _⟩ := st; wpAny_pyIter_enum he h
noncomputable def iEnumT (K : PySem.W.Frag) (ta : TA) : TI := fun σ H R => ta σ H fun vs H1 => ∃ a xs, vs = [.ref a] ∧ SqT K H1 a xs ∧ R (IteT K a) H1
theorem pi_enumT {X : Cx} {e : Expr} {ta : TA} {p pos tpos : Pos} {elts : List Expr} {kk : Nat} (hg : Gl X "enumerate") (hm : X.mg "enumerate" = none) (ha : PA X [e] ta) (hs : starEach [e] X.env = [(false, eval e X.env)] := by rfl) :
    PI X (.Tuple elts kk tpos) (.Call (.Name "enumerate" p) [e] [] pos) (iEnumT X.K ta) := by
  refine ⟨fun pins s σ H R I h => ?_⟩
  refine PyProof.Rows.Call_ (ld_blt I hg hm PyProof.Rows.boot_enumerate (PyProof.Rows.callWith_type1 (thn (ha.run pos pins s σ H _ I h) fun us s1 ⟨vs, H1, I1, r1, q1⟩ => ?_) hs rfl))
  obtain ⟨a, xs, ex, hq, q⟩ := q1
  subst ex
  cases r1 with
  | cons r rr =>
    cases rr
    cases r
    obtain ⟨its, rv, p', hz⟩ := I1.tuple hq
    refine call_enumT (show s1.heap.IsTuple a its.toArray from p') fun h' he hit hsz hk => wpAny_pyIter_enum he ?_
    have I2 : Inv X pins σ H1 { s1 with heap := h' } := I1.kept (t' := s1.toks) hk
    refine ⟨s1.heap.objs.size + 1, [s1.heap.objs.size + 1, s1.heap.objs.size], _, _, H1, rfl, I2, turn_enumT a (s1.heap.objs.size + 1) s1.heap.objs.size, ⟨⟨.none, he⟩, hit, Nat.succ_ne_self _⟩, fun b hb => ?_, q⟩
    have e' : b = s1.heap.objs.size + 1 ∨ b = s1.heap.objs.size := by simpa using hb
    have hle : s1.heap.objs.size ≤ b := by
      rcases e' with z | z
      · rw [z]; exact Nat.le_add_right _ _
      · rw [z]; exact Nat.le_refl _
    exact I1.fpOk hle (I1.hok.fresh hle)
theorem walk_enumT {K : PySem.W.Frag} {a : Addr} {xs : List V} : Walk (IteT K a) xs.length (fun H => SqT K H a xs) (fun i H v H' => ∃ T x, v = .ref T ∧ H T = none ∧ H' = upd H T (.tup [.int (i : Nat), x]) ∧ xs[i]? = some x) :=
  ⟨fun i H hi h => ⟨xs, xs[i]'hi, h, by simp⟩, fun H h => ⟨xs, h, Nat.le_refl _⟩, fun i H x H' hi h y => by
    obtain ⟨T, x1, e1, e2, e3, e4⟩ := y
    exact ⟨T, x1, e1, e2, e3, e4 xs h⟩⟩
end Ev
/-! t[::-1], t a tuple. -/
namespace Ev
open PySem PySem.Spec L2
open HT
open PyProof.Rows hiding St
section
variable {prog : Program} {w : World} {A : Around} {E : Value → Shared → Prop} {s : Shared}
theorem applied_rev {sl : Addr} {vl vu vs : Value} {n : Nat} {Q : Int × Int × Nat → Shared → Prop} (hs : s.heap.IsSliceOf sl vl vu vs) (pl : IsPart vl none) (pu : IsPart vu none) (ps : IsPart vs (some (-1)))
    (h : Q ((n : Int) - 1, -1, n) s) : wpAny (model prog w) A (Builtin.Slice.sliceApplied (.ref sl) (pure (n : Int))) Q E s := by
  obtain ⟨o, ho, hc, hd⟩ := id hs
  unfold Builtin.Slice.sliceApplied Builtin.Slice.sliceFields
  refine wpAny_bind (wpAny_bind (wpAny_field ho hd (x := vl) rfl (wpAny_bind (wpAny_field ho hd (x := vu) rfl (wpAny_bind (wpAny_field ho hd (x := vs) rfl (wpAny_pure ?_)))))))
  refine wpAny_bind (slicePart_ ps ?_)
  show wpAny _ _ (if ((-1 : Int) == 0) = true then _ else _) _ _ s
  rw [if_neg (by decide)]
  refine wpAny_bind (slicePart_ pl (wpAny_bind (slicePart_ pu (wpAny_bind (wpAny_pure ?_)))))
  have e : Builtin.Slice.slicePlaces ((n : Int) - 1) (-1) (-1) = n := by
    unfold Builtin.Slice.slicePlaces
    rw [if_neg (by decide)]
    by_cases z : n = 0
    · subst z; rfl
    · rw [if_pos (by omega), show (- -1 : Int) = 1 from rfl, Int.ediv_one]
      omega
  show wpAny _ _ (pure ((n : Int) - 1, (-1 : Int), Builtin.Slice.slicePlaces ((n : Int) - 1) (-1) (-1))) _ _ s
  rw [e]
  exact wpAny_pure h
theorem pick_rev (xs : Array Value) : ((List.range xs.size).filterMap fun (m : Nat) => xs[(((xs.size : Nat) : Int) - 1 + (m : Int) * -1).toNat]?).toArray = xs.toList.reverse.toArray := by
  congr 1
  have e : ∀ n : Nat, n ≤ xs.size → (List.range n).filterMap (fun (m : Nat) => xs[(((xs.size : Nat) : Int) - 1 + (m : Int) * -1).toNat]?) = (xs.toList.drop (xs.size - n)).reverse := by
    intro n
    induction n with
    | zero => intro _; simp
    | succ n ih =>
      intro hn
      have i : (((xs.size : Nat) : Int) - 1 + (n : Int) * -1).toNat = xs.size - (n + 1) := by omega
      have hlt : xs.size - (n + 1) < xs.toList.length := by rw [Array.length_toList]; omega
      rw [List.range_succ, List.filterMap_append, ih (by omega), List.filterMap_cons, i]
      have g : xs[xs.size - (n + 1)]? = some (xs.toList[xs.size - (n + 1)]'hlt) := by
        rw [Array.getElem?_eq_getElem (by rw [Array.length_toList] at hlt; exact hlt)]
        rfl
      rw [g, List.filterMap_nil, List.drop_eq_getElem_cons hlt, List.reverse_cons, show xs.size - (n + 1) + 1 = xs.size - n by omega]
  rw [e xs.size (Nat.le_refl _), Nat.sub_self, List.drop_zero]
theorem item_rev {t sl : Addr} {items : Array Value} {vl vu vs : Value} {Q : Value → Shared → Prop} (ht : IsTup s.heap t items) (hs : s.heap.IsSliceOf sl vl vu vs) (pl : IsPart vl none) (pu : IsPart vu none) (ps : IsPart vs (some (-1)))
    (h : Q (.ref s.heap.objs.size) { s with heap := s.heap.push { cls := .type "tuple", data := .seq items.toList.reverse.toArray } }) (hsz : items.size ≤ sizeLine) : wpAny (model prog w) A (getItem (.ref t) (.ref sl)) Q E s := by
  have hfit : sizeOk (.seq items.toList.reverse.toArray) := by
    show items.toList.reverse.toArray.size ≤ sizeLine
    rw [List.size_toArray, List.length_reverse, Array.length_toList]
    exact hsz
  obtain ⟨o, ho, hc, hd⟩ := id hs
  have hT : s.TypeIs (.ref sl) "slice" := ⟨o, ho, hc⟩
  unfold getItem
  try with_reducible refine wpAny_holding ?_
  first | refine wpAny_bind (wpAny_pure ?_) | skip
  refine wpAny_bind (wpAny_sequenceKey ht.typeIs (by decide) ?_)
  refine wpAny_bind (wpAny_callSpecial?_slot (name := Str.ofString "__getitem__") ht.typeIs slot_tuple_getitem
    (wpAny_call_entry slot_tuple_getitem ht.typeIs entry_tuple_getitem ?_ (args_tuple_getitem _ _)))
  show wpAny _ _ (Builtin.Tuple.tupleItemsOf (.ref t) >>= _) _ _ s
  refine wpAny_bind (tupleItemsOf_ ht ?_)
  refine wpAny_bind (wpAny_typeOf hT ?_)
  rw [if_pos (by decide)]
  refine wpAny_bind (applied_rev hs pl pu ps ?_)
  have hno : ¬ (((((items.size : Nat) : Int) - 1) == 0 && (-1 : Int) == 1 && items.size == items.size) = true) := by
    rw [show ((-1 : Int) == 1) = false from rfl, Bool.and_false, Bool.false_and]
    exact Bool.false_ne_true
  show wpAny _ _ (if ((((items.size : Nat) : Int) - 1) == 0 && (-1 : Int) == 1 && items.size == items.size) = true then _ else _) _ _ s
  rw [if_neg hno, pick_rev]
  first
    | exact wpAny_bind (m := Builtin.Tuple.tupleExact _) (wpAny_newObj_type (wpAny_pure ⟨_, rfl, wpAny_pure h⟩) hfit)
    | exact wpAny_bind (m := Builtin.Tuple.tupleExact _) (wpAny_newObj_type (wpAny_bind (wpAny_pure (wpAny_pure ⟨_, rfl, wpAny_pure h⟩))) hfit)
    | exact wpAny_bind (wpAny_bind (m := Builtin.Tuple.tupleExact _) (wpAny_newObj_type (wpAny_pure (wpAny_pure ⟨_, rfl, wpAny_pure h⟩)) hfit))
    | exact wpAny_bind (wpAny_bind (m := Builtin.Tuple.tupleExact _) (wpAny_newObj_type (wpAny_pure ⟨_, rfl, wpAny_pure h⟩) hfit))
end
noncomputable def tRevT (K : PySem.W.Frag) (te : TE) : TE := fun σ H Q => te σ H fun x H1 => ∃ a xs, x = .ref a ∧ SqT K H1 a xs ∧ ∀ p, H1 p = none → Q (.ref p) (upd H1 p (.tup xs.reverse))
theorem pe_revT {X : Cx} {e : Expr} {te : TE} {k : Nat} {p1 p2 p3 pos : Pos} (he : PE X e te) : PE X (.Subscript e (.Slice none none (some (.UnaryOp .USub (.Constant (.int 1) k p1) p2)) p3) pos) (tRevT X.K te) := by
  refine ⟨fun pins s σ H Q I h => Subscript_ (thn (he.run pins s σ H _ I h) fun v s1 ⟨x, H1, I1, r1, a, xs, ex, hx, q⟩ => ?_)⟩
  subst ex
  cases r1
  have hst : PO X (some (.UnaryOp .USub (.Constant (.int 1) k p1) p2)) (tPart (tUn (rU fun i => .int (-i)) (tC (.int 1)))) := po_some (pe_un un_neg pe_int)
  refine wpAny_Slice (thn (po_none.run pins s1 σ H1 (fun o H2 => o = none ∧ H2 = H1) I1 ⟨rfl, rfl⟩) fun vl s2 ⟨l, H2, I2, pl, el, e2⟩ => ?_)
  subst el e2
  refine thn (po_none.run pins s2 σ H2 (fun o H3 => o = none ∧ H3 = H2) I2 ⟨rfl, rfl⟩) fun vu s3 ⟨u, H3, I3, pu, eu, e3⟩ => ?_
  subst eu e3
  refine thn (hst.run pins s3 σ H3 (fun o H4 => o = some (-1) ∧ H4 = H3) I3 ⟨1, rfl, -1, rfl, rfl, rfl⟩) fun vs s4 ⟨o, H4, I4, ps, eo, e4⟩ => ?_
  subst eo e4
  have I5 : Inv X pins σ H4 { s4 with heap := s4.heap.push { cls := .type "slice", data := .fields #[vl, vu, vs] } } := I4.kept (t' := s4.toks) fun b ob q => Heap.get?_push_of_some _ q
  obtain ⟨its, r, ht, hz⟩ := I5.tuple hx
  have hlen := r.length
  show wpAny (model X.prog X.w) X.A (subscriptTail e (.Slice none none (some (.UnaryOp .USub (.Constant (.int 1) k p1) p2)) p3) (.ref a) (.ref s4.heap.objs.size)) (EP X pins σ Q) X.xe { s4 with heap := s4.heap.push { cls := .type "slice", data := .fields #[vl, vu, vs] } }
  refine tail_any (ops := [.ref a, .ref s4.heap.objs.size]) ht.typeIs (slot_tuple_getitem.lookup) ?_ (by with_unfolding_all rfl)
  refine item_rev ht (Heap.IsSliceOf.new _ vl vu vs) pl pu ps ?_ (by rw [List.size_toArray]; omega)
  refine ⟨.ref _, _, I5.laid (t' := s4.toks) (o := .tup xs.reverse) (fun b ob q => Heap.get?_push_of_some _ q) (Nat.le_refl _) ?_, rfl, q _ (I5.hok.fresh (Nat.le_refl _))⟩
  exact ⟨by rw [List.length_reverse]; exact hz, _, r.reverse, IsTup.new _ _⟩
end Ev
/-! t[a::2], t a tuple. -/
namespace Ev
open PySem PySem.Spec L2
open HT
open PyProof.Rows hiding St
theorem places_two (n i : Nat) (h : i ≤ n) : Builtin.Slice.slicePlaces (i : Int) (n : Int) 2 = (n - i + 1) / 2 := by
  unfold Builtin.Slice.slicePlaces
  rw [if_pos (by decide)]
  split <;> omega
theorem adjust_two (lo : Option Int) (n : Nat) : Builtin.Slice.sliceAdjust lo none 2 (n : Int) = (((sIx n 0 lo : Nat) : Int), (n : Int)) := by
  have h1 : ¬ ((2 : Int) < 0) := by omega
  unfold Builtin.Slice.sliceAdjust
  simp only [h1, if_false]
  refine Prod.ext ?_ rfl
  cases lo with
  | none => rfl
  | some v => exact clip_eq v n 0
theorem half_pick {α : Type} : ∀ l : List α, (List.range ((l.length + 1) / 2)).filterMap (fun m => l[m * 2]?) = halfT l
  | [] => by simp [halfT]
  | [x] => by simp [halfT]
  | x :: y :: r => by
    have e : ((x :: y :: r).length + 1) / 2 = (r.length + 1) / 2 + 1 := by simp only [List.length_cons]; omega
    rw [e, List.range_succ_eq_map, List.filterMap_cons, List.filterMap_map]
    have e2 : ((fun m => (x :: y :: r)[m * 2]?) ∘ Nat.succ) = fun m => r[m * 2]? := by
      funext m
      show (x :: y :: r)[(m + 1) * 2]? = _
      have : (m + 1) * 2 = m * 2 + 2 := by omega
      rw [this]
      rfl
    rw [e2, half_pick r]
    rfl
theorem pick_two (xs : Array Value) (i : Nat) (h : i ≤ xs.size) : ((List.range ((xs.size - i + 1) / 2)).filterMap fun (m : Nat) => xs[((i : Int) + (m : Int) * 2).toNat]?).toArray = (halfT (xs.toList.drop i)).toArray := by
  congr 1
  have e : (fun (m : Nat) => xs[((i : Int) + (m : Int) * 2).toNat]?) = fun m => (xs.toList.drop i)[m * 2]? := by
    funext m
    have : ((i : Int) + (m : Int) * 2).toNat = i + m * 2 := by omega
    rw [this, List.getElem?_drop, Array.getElem?_toList]
  rw [e, ← half_pick, List.length_drop, Array.length_toList]
section
variable {prog : Program} {w : World} {A : Around} {E : Value → Shared → Prop} {s : Shared}
theorem applied_two {sl : Addr} {vl vu vs : Value} {lo : Option Int} {n : Nat} {Q : Int × Int × Nat → Shared → Prop} (hs : s.heap.IsSliceOf sl vl vu vs) (pl : IsPart vl lo) (pu : IsPart vu none) (ps : IsPart vs (some 2))
    (h : Q (((sIx n 0 lo : Nat) : Int), 2, (n - sIx n 0 lo + 1) / 2) s) : wpAny (model prog w) A (Builtin.Slice.sliceApplied (.ref sl) (pure (n : Int))) Q E s := by
  obtain ⟨o, ho, hc, hd⟩ := id hs
  unfold Builtin.Slice.sliceApplied Builtin.Slice.sliceFields
  refine wpAny_bind (wpAny_bind (wpAny_field ho hd (x := vl) rfl (wpAny_bind (wpAny_field ho hd (x := vu) rfl (wpAny_bind (wpAny_field ho hd (x := vs) rfl (wpAny_pure ?_)))))))
  refine wpAny_bind (slicePart_ ps ?_)
  show wpAny _ _ (if ((2 : Int) == 0) = true then _ else _) _ _ s
  rw [if_neg (by decide)]
  refine wpAny_bind (slicePart_ pl (wpAny_bind (slicePart_ pu (wpAny_bind (wpAny_pure ?_)))))
  show wpAny _ _ (match Builtin.Slice.sliceAdjust lo none 2 (n : Int) with | (lo, hi) => pure (lo, (2 : Int), Builtin.Slice.slicePlaces lo hi 2)) _ _ s
  rw [adjust_two lo n]
  show wpAny _ _ (pure (((sIx n 0 lo : Nat) : Int), (2 : Int), Builtin.Slice.slicePlaces ((sIx n 0 lo : Nat) : Int) (n : Int) 2)) _ _ s
  rw [places_two n _ (sIx_le n 0 (Nat.zero_le _) lo)]
  exact wpAny_pure h
theorem item_two {t sl : Addr} {items : Array Value} {vl vu vs : Value} {lo : Option Int} {Q : Value → Shared → Prop} (ht : IsTup s.heap t items) (hs : s.heap.IsSliceOf sl vl vu vs) (pl : IsPart vl lo) (pu : IsPart vu none) (ps : IsPart vs (some 2))
    (h : Q (.ref s.heap.objs.size) { s with heap := s.heap.push { cls := .type "tuple", data := .seq (halfT (items.toList.drop (sIx items.size 0 lo))).toArray } }) (hsz : items.size ≤ sizeLine) : wpAny (model prog w) A (getItem (.ref t) (.ref sl)) Q E s := by
  have hfit : sizeOk (.seq (halfT (items.toList.drop (sIx items.size 0 lo))).toArray) := by
    show (halfT (items.toList.drop (sIx items.size 0 lo))).toArray.size ≤ sizeLine
    have e1 := halfT_len (items.toList.drop (sIx items.size 0 lo))
    have e2 : items.toList.length = items.size := Array.length_toList
    rw [List.length_drop, e2] at e1
    generalize halfT (items.toList.drop (sIx items.size 0 lo)) = L at *
    rw [List.size_toArray]
    omega
  obtain ⟨o, ho, hc, hd⟩ := id hs
  have hT : s.TypeIs (.ref sl) "slice" := ⟨o, ho, hc⟩
  unfold getItem
  try with_reducible refine wpAny_holding ?_
  first | refine wpAny_bind (wpAny_pure ?_) | skip
  refine wpAny_bind (wpAny_sequenceKey ht.typeIs (by decide) ?_)
  refine wpAny_bind (wpAny_callSpecial?_slot (name := Str.ofString "__getitem__") ht.typeIs slot_tuple_getitem
    (wpAny_call_entry slot_tuple_getitem ht.typeIs entry_tuple_getitem ?_ (args_tuple_getitem _ _)))
  show wpAny _ _ (Builtin.Tuple.tupleItemsOf (.ref t) >>= _) _ _ s
  refine wpAny_bind (tupleItemsOf_ ht ?_)
  refine wpAny_bind (wpAny_typeOf hT ?_)
  rw [if_pos (by decide)]
  refine wpAny_bind (applied_two hs pl pu ps ?_)
  have hno : ¬ ((((sIx items.size 0 lo : Nat) : Int) == 0 && (2 : Int) == 1 && ((items.size - sIx items.size 0 lo + 1) / 2) == items.size) = true) := by
    rw [show ((2 : Int) == 1) = false from rfl, Bool.and_false, Bool.false_and]
    exact Bool.false_ne_true
  show wpAny _ _ (if (((sIx items.size 0 lo : Nat) : Int) == 0 && (2 : Int) == 1 && ((items.size - sIx items.size 0 lo + 1) / 2) == items.size) = true then _ else _) _ _ s
  rw [if_neg hno, pick_two _ _ (sIx_le _ 0 (Nat.zero_le _) lo)]
  first
    | exact wpAny_bind (m := Builtin.Tuple.tupleExact _) (wpAny_newObj_type (wpAny_pure ⟨_, rfl, wpAny_pure h⟩) hfit)
    | exact wpAny_bind (m := Builtin.Tuple.tupleExact _) (wpAny_newObj_type (wpAny_bind (wpAny_pure (wpAny_pure ⟨_, rfl, wpAny_pure h⟩))) hfit)
    | exact wpAny_bind (wpAny_bind (m := Builtin.Tuple.tupleExact _) (wpAny_newObj_type (wpAny_pure (wpAny_pure ⟨_, rfl, wpAny_pure h⟩)) hfit))
    | exact wpAny_bind (wpAny_bind (m := Builtin.Tuple.tupleExact _) (wpAny_newObj_type (wpAny_pure ⟨_, rfl, wpAny_pure h⟩) hfit))
end
noncomputable def tTwo (K : PySem.W.Frag) (te : TE) (tl : TO) (ts : TE) : TE := fun σ H Q => te σ H fun x H1 => tl σ H1 fun l H2 => tPart ts σ H2 fun o H3 => ∃ a xs, x = .ref a ∧ o = some 2 ∧ SqT K H3 a xs ∧ ∀ p, H3 p = none → Q (.ref p) (upd H3 p (.tup (halfT (xs.drop (sIx xs.length 0 l)))))
theorem halfT_vals : ∀ {xs : List V} {its : List Value}, Vals xs its → Vals (halfT xs) (halfT its)
  | _, _, .nil => .nil
  | _, _, .cons a .nil => .cons a .nil
  | _, _, .cons a (.cons b r) => .cons a (halfT_vals r)
theorem vals_drop : ∀ {xs : List V} {its : List Value} (n : Nat), Vals xs its → Vals (xs.drop n) (its.drop n)
  | _, _, 0, r => r
  | _, _, _ + 1, .nil => .nil
  | _, _, n + 1, .cons a r => vals_drop n r
theorem pe_two {X : Cx} {e st : Expr} {te ts : TE} {lo : Option Expr} {tl : TO} {p2 pos : Pos} (he : PE X e te) (hl : PO X lo tl) (hst : PE X st ts) : PE X (.Subscript e (.Slice lo none (some st) p2) pos) (tTwo X.K te tl ts) := by
  refine ⟨fun pins s σ H Q I h => Subscript_ (thn (he.run pins s σ H _ I h) fun v s1 ⟨x, H1, I1, r1, q1⟩ => ?_)⟩
  refine wpAny_Slice (thn (hl.run pins s1 σ H1 _ I1 q1) fun vl s2 ⟨l, H2, I2, pl, q2⟩ => ?_)
  refine thn (po_none.run pins s2 σ H2 (fun o H3 => o = none ∧ H3 = H2) I2 ⟨rfl, rfl⟩) fun vu s3 ⟨u, H3, I3, pu, eu, e3⟩ => ?_
  subst eu e3
  refine thn ((po_some hst).run pins s3 σ H3 (fun o H4 => ∃ a xs, x = .ref a ∧ o = some 2 ∧ SqT X.K H4 a xs ∧ ∀ p, H4 p = none → Q (.ref p) (upd H4 p (.tup (halfT (xs.drop (sIx xs.length 0 l)))))) I3 q2) fun vs s4 ⟨o, H4, I4, ps, a, xs, ex, eo, hx, q⟩ => ?_
  subst ex eo
  cases r1
  have I5 : Inv X pins σ H4 { s4 with heap := s4.heap.push { cls := .type "slice", data := .fields #[vl, vu, vs] } } := I4.kept (t' := s4.toks) fun b ob q => Heap.get?_push_of_some _ q
  obtain ⟨its, r, ht, hz⟩ := I5.tuple hx
  have hlen := r.length
  show wpAny (model X.prog X.w) X.A (subscriptTail e (.Slice lo none (some st) p2) (.ref a) (.ref s4.heap.objs.size)) (EP X pins σ Q) X.xe { s4 with heap := s4.heap.push { cls := .type "slice", data := .fields #[vl, vu, vs] } }
  refine tail_any (ops := [.ref a, .ref s4.heap.objs.size]) ht.typeIs (slot_tuple_getitem.lookup) ?_ (by with_unfolding_all rfl)
  refine item_two ht (Heap.IsSliceOf.new _ vl vu vs) pl pu ps ?_ (by rw [List.size_toArray]; omega)
  have rr : Vals (halfT (xs.drop (sIx xs.length 0 l))) (halfT (its.drop (sIx its.toArray.size 0 l))) := by
    rw [List.size_toArray, ← hlen]
    exact halfT_vals (vals_drop _ r)
  refine ⟨.ref _, _, I5.laid (t' := s4.toks) (o := .tup (halfT (xs.drop (sIx xs.length 0 l)))) (fun b ob q => Heap.get?_push_of_some _ q) (Nat.le_refl _) ?_, rfl, q _ (I5.hok.fresh (Nat.le_refl _))⟩
  refine ⟨?_, _, rr, IsTup.new _ _⟩
  have := halfT_len (xs.drop (sIx xs.length 0 l))
  rw [List.length_drop] at this
  omega
end Ev
/-! zip of three tuples. -/
namespace Ev
open PySem PySem.Spec L2
open PyProof.Rows hiding St
/-- the tuples at a, b, c, the items in new tuples of three -/
noncomputable def ItzT3 (K : PySem.W.Frag) (a b c : Addr) : It :=
  ⟨fun i H => ∃ (xs ys zs : List V) (x y z : V), SqT K H a xs ∧ SqT K H b ys ∧ SqT K H c zs ∧ xs[i]? = some x ∧ ys[i]? = some y ∧ zs[i]? = some z,
    fun i H v H' => ∃ T x y z, v = .ref T ∧ H T = none ∧ H' = upd H T (.tup [x, y, z]) ∧ (∀ xs, SqT K H a xs → xs[i]? = some x) ∧ (∀ ys, SqT K H b ys → ys[i]? = some y) ∧ ∀ zs, SqT K H c zs → zs[i]? = some z,
    fun i H => ∃ xs ys zs : List V, SqT K H a xs ∧ SqT K H b ys ∧ SqT K H c zs ∧ i ≤ xs.length ∧ i ≤ ys.length ∧ i ≤ zs.length ∧ (i = xs.length ∨ i = ys.length ∨ i = zs.length)⟩
theorem three_le_line : 3 ≤ sizeLine := by decide
theorem turn_zipT3 {P : Program} {w : World} {K : PySem.W.Frag} {elts : List Expr} {kk : Nat} {tpos : Pos} {a b c z TI TO i1 i2 i3 : Addr} (D : ZipSep3 z TI TO i1 i2 i3 [i1, a] [i2, b] [i3, c]) :
    Turn P w K (.Tuple elts kk tpos) (ItzT3 K a b c) [z, TI, TO, i1, i2, i3] z (fun i h => IsZip h z TI TO .none ∧ IsTupOf3 h TI (.ref i1) (.ref i2) (.ref i3) ∧ (∃ x y v, IsTupOf3 h TO x y v) ∧ h.IsTupleIter i1 a i ∧ h.IsTupleIter i2 b i ∧ h.IsTupleIter i3 c i) where
  mem := by simp
  obj := fun i h st q hq => by
    obtain ⟨hz, hTI, ⟨x, y, v, hTO⟩, ⟨o1, e1, _, d1⟩, ⟨o2, e2, _, d2⟩, ⟨o3, e3, _, d3⟩⟩ := st
    have e' : q = z ∨ q = TI ∨ q = TO ∨ q = i1 ∨ q = i2 ∨ q = i3 := by simpa using hq
    rcases e' with q | q | q | q | q | q
    · rw [q]; exact ⟨_, hz, fun v q => nomatch q⟩
    · rw [q]; exact ⟨_, hTI, fun v q => nomatch q⟩
    · rw [q]; exact ⟨_, hTO, fun v q => nomatch q⟩
    · rw [q]; exact ⟨o1, e1, fun v q => by rw [d1] at q; cases q⟩
    · rw [q]; exact ⟨o2, e2, fun v q => by rw [d2] at q; cases q⟩
    · rw [q]; exact ⟨o3, e3, fun v q => by rw [d3] at q; cases q⟩
  keep := fun i h h' st k => by
    obtain ⟨hz, hTI, ⟨x, y, v, hTO⟩, h1, h2, h3⟩ := st
    exact ⟨k z (by simp) _ hz, k TI (by simp) _ hTI, ⟨x, y, v, k TO (by simp) _ hTO⟩, h1.at fun o q => k i1 (by simp) o q, h2.at fun o q => k i2 (by simp) o q, h3.at fun o q => k i3 (by simp) o q⟩
  item := by
    intro X hP hw hK hc i pins s σ H E I hf st hg
    subst hP hw hK
    obtain ⟨hz, hTI, ⟨x0, y0, v0, hTO⟩, h1, h2, h3⟩ := st
    obtain ⟨xs, ys, zs, x, y, v, hqx, hqy, hqz, hx, hy, hv⟩ := hg
    obtain ⟨its, rv, p, _⟩ := I.tuple hqx
    obtain ⟨its2, rv2, p2, _⟩ := I.tuple hqy
    obtain ⟨its3, rv3, p3, _⟩ := I.tuple hqz
    obtain ⟨u, hu, ru⟩ := rv.get hx
    obtain ⟨u2, hu2, ru2⟩ := rv2.get hy
    obtain ⟨u3, hu3, ru3⟩ := rv3.get hv
    have hzl : z < s.heap.objs.size := Heap.lt_size hz
    have hd := I.ok.hd hc
    have ne : ∀ {it t : Addr} {j : Nat} {items : Array Value}, s.heap.IsTupleIter it t j → s.heap.IsTuple t items → t ≠ it := fun q1 q2 e => by
      subst e
      obtain ⟨o, e1, c1, _⟩ := q1
      obtain ⟨o', e2, c2, _⟩ := q2
      rw [e1] at e2
      cases e2
      rw [c1] at c2
      exact absurd c2 (by decide)
    have D1 := Draws.tuple (prog := X.prog) (w := X.w) (A := X.A.in1) hd i1 a (ne h1 p) its.toArray
    have D2 := Draws.tuple (prog := X.prog) (w := X.w) (A := X.A.in1) hd i2 b (ne h2 p2) its2.toArray
    have D3 := Draws.tuple (prog := X.prog) (w := X.w) (A := X.A.in1) hd i3 c (ne h3 p3) its3.toArray
    have lt1 : i < its.toArray.size := by
      rw [List.size_toArray]
      exact (List.getElem?_eq_some_iff.mp hu).1
    have lt2 : i < its2.toArray.size := by
      rw [List.size_toArray]
      exact (List.getElem?_eq_some_iff.mp hu2).1
    have lt3 : i < its3.toArray.size := by
      rw [List.size_toArray]
      exact (List.getElem?_eq_some_iff.mp hu3).1
    refine wpAny_pyNext_zipD3_item D D1 D2 D3 hz hTI hTO ⟨h1, p⟩ ⟨h2, p2⟩ ⟨h3, p3⟩ lt1 lt2 lt3 fun x1 x2 x3 h' tk g1 g2 g3 z' TO' h1' h2' h3' hT hsz hk => ?_
    have e1 : x1 = u := by
      have : its[i]? = some x1 := by simpa using g1
      rw [hu] at this
      cases this; rfl
    have e2 : x2 = u2 := by
      have : its2[i]? = some x2 := by simpa using g2
      rw [hu2] at this
      cases this; rfl
    have e3 : x3 = u3 := by
      have : its3[i]? = some x3 := by simpa using g3
      rw [hu3] at this
      cases this; rfl
    subst e1 e2 e3
    refine ⟨_, rfl, wpAny_letOwnedTupleGo_zip (s := { s with heap := h', toks := tk }) z' fun h'' z'' sb => ?_⟩
    have hT2 : h''.get? s.heap.objs.size = some { cls := .type "tuple", data := .seq #[x1, x2, x3] } := (sb.2 _ (Nat.ne_of_gt hzl)).trans hT
    have new : ObjOk X.prog X.w (upd H s.heap.objs.size (.tup [x, y, v])) h'' s.heap.objs.size (.tup [x, y, v]) :=
      ⟨by show 3 ≤ sizeLine; decide, [x1, x2, x3], .cons ru (.cons ru2 (.cons ru3 .nil)), ⟨_, hT2, rfl, _, rfl⟩⟩
    have I1 : Inv X pins σ (upd H s.heap.objs.size (.tup [x, y, v])) { s with heap := h'', toks := tk } :=
      I.turnedNew (t' := tk) (ch := [z, TI, TO, i1, i2, i3]) (fun q o hb e => (sb.2 q (fun q' => hb (by simp [q']))).trans (hk q o (fun q' => hb (by simp [q'])) (fun q' => hb (by simp [q'])) (fun q' => hb (by simp [q'])) (fun q' => hb (by simp [q'])) (fun q' => hb (by simp [q'])) e)) hf (Nat.le_refl _) new
    refine ⟨.ref s.heap.objs.size, _, I1, rfl, ⟨_, x, y, v, rfl, I.hok.fresh (Nat.le_refl _), rfl, fun l hl => by rw [I.tuple_inj hl hqx]; exact hx, fun l hl => by rw [I.tuple_inj hl hqy]; exact hy, fun l hl => by rw [I.tuple_inj hl hqz]; exact hv⟩, ⟨z'', ?_, ⟨x1, x2, x3, ?_⟩, ?_, ?_, ?_⟩, fun q hcm => ?_⟩
    · exact (sb.2 _ D.TIz).trans (hk _ _ D.TIz D.TITO D.TIi1 D.TIi2 D.TIi3 hTI)
    · exact (sb.2 _ D.TOz).trans TO'
    · exact h1'.1.at fun o q => (sb.2 _ (Ne.symm D.zi1)).trans q
    · exact h2'.1.at fun o q => (sb.2 _ (Ne.symm D.zi2)).trans q
    · exact h3'.1.at fun o q => (sb.2 _ (Ne.symm D.zi3)).trans q
    · have hlt : q < s.heap.objs.size := by
        have e' : q = z ∨ q = TI ∨ q = TO ∨ q = i1 ∨ q = i2 ∨ q = i3 := by simpa using hcm
        rcases e' with q | q | q | q | q | q
        · rw [q]; exact hzl
        · rw [q]; exact Heap.lt_size hTI
        · rw [q]; exact Heap.lt_size hTO
        · rw [q]; obtain ⟨_, e1, _⟩ := h1; exact Heap.lt_size e1
        · rw [q]; obtain ⟨_, e2, _⟩ := h2; exact Heap.lt_size e2
        · rw [q]; obtain ⟨_, e3, _⟩ := h3; exact Heap.lt_size e3
      rw [upd_ne (Nat.ne_of_lt hlt)]
      exact (hf q hcm).1
  done := by
    intro X hP hw hK hc i pins s σ H E I hf st hg
    subst hP hw hK
    obtain ⟨hz, hTI, ⟨x0, y0, v0, hTO⟩, h1, h2, h3⟩ := st
    obtain ⟨xs, ys, zs, hqx, hqy, hqz, l1, l2, l3, hend⟩ := hg
    obtain ⟨its, rv, p, _⟩ := I.tuple hqx
    obtain ⟨its2, rv2, p2, _⟩ := I.tuple hqy
    obtain ⟨its3, rv3, p3, _⟩ := I.tuple hqz
    have m1 := rv.length
    have m2 := rv2.length
    have m3 := rv3.length
    have hd := I.ok.hd hc
    have ne : ∀ {it t : Addr} {j : Nat} {items : Array Value}, s.heap.IsTupleIter it t j → s.heap.IsTuple t items → t ≠ it := fun q1 q2 e => by
      subst e
      obtain ⟨o, e1, c1, _⟩ := q1
      obtain ⟨o', e2, c2, _⟩ := q2
      rw [e1] at e2
      cases e2
      rw [c1] at c2
      exact absurd c2 (by decide)
    have D1 := Draws.tuple (prog := X.prog) (w := X.w) (A := X.A.in1) hd i1 a (ne h1 p) its.toArray
    have D2 := Draws.tuple (prog := X.prog) (w := X.w) (A := X.A.in1) hd i2 b (ne h2 p2) its2.toArray
    have D3 := Draws.tuple (prog := X.prog) (w := X.w) (A := X.A.in1) hd i3 c (ne h3 p3) its3.toArray
    exact wpAny_pyNext_zipD3_end D D1 D2 D3 hz hTI hTO ⟨h1, p⟩ ⟨h2, p2⟩ ⟨h3, p3⟩ (by rw [List.size_toArray]; omega) (by rw [List.size_toArray]; omega) (by rw [List.size_toArray]; omega) (by rw [List.size_toArray, List.size_toArray, List.size_toArray]; omega) fun h' tk hk => ⟨rfl, I.turnedL (t' := tk) (ch := [z, TI, TO, i1, i2, i3]) (fun q o hb e =>
      hk q o (fun q' => hb (by simp [q'])) (fun q' => hb (by simp [q'])) (fun q' => hb (by simp [q'])) (fun q' => hb (by simp [q'])) (fun q' => hb (by simp [q'])) e) hf⟩
  self := fun A i s Q E st h => wpAny_pyIter_zip st.1 h
noncomputable def iZip3 (K : PySem.W.Frag) (ta : TA) : TI := fun σ H R => ta σ H fun vs H1 => ∃ a b c xs ys zs, vs = [.ref a, .ref b, .ref c] ∧ SqT K H1 a xs ∧ SqT K H1 b ys ∧ SqT K H1 c zs ∧ R (ItzT3 K a b c) H1
theorem pi_zip3 {X : Cx} {e e2 e3 : Expr} {ta : TA} {p pos tpos : Pos} {elts : List Expr} {kk : Nat} (hg : Gl X "zip") (hm : X.mg "zip" = none) (ha : PA X [e, e2, e3] ta)
    (hs : starEach [e, e2, e3] X.env = (false, eval e X.env) :: starEach [e2, e3] X.env) (hpl : (backTo pos (starEach [e2, e3] X.env)).any (·.1) = false) :
    PI X (.Tuple elts kk tpos) (.Call (.Name "zip" p) [e, e2, e3] [] pos) (iZip3 X.K ta) := by
  refine ⟨fun pins s σ H R I h => ?_⟩
  refine Call_ (ld_blt I hg hm PyProof.Rows.boot_zip (PyProof.Rows.callWith_type1 (thn (ha.run pos pins s σ H _ I h) fun us s1 ⟨vs, H1, I1, r1, q1⟩ => ?_) hs hpl))
  obtain ⟨a, b, c, xs, ys, zs, ex, hqx, hqy, hqz, q⟩ := q1
  subst ex
  cases r1 with
  | cons r rr =>
    cases rr with
    | cons r' rr =>
      cases rr with
      | cons r2 rr =>
        cases rr
        cases r
        cases r'
        cases r2
        have fresh6 : ∀ v, v ∈ [s1.heap.objs.size + 5, s1.heap.objs.size + 3, s1.heap.objs.size + 4, s1.heap.objs.size, s1.heap.objs.size + 1, s1.heap.objs.size + 2] → FpOk X pins H1 v := fun v hcm => by
          have hle : s1.heap.objs.size ≤ v := by
            simp only [List.mem_cons, List.not_mem_nil, or_false] at hcm
            omega
          exact I1.fpOk hle (I1.hok.fresh hle)
        obtain ⟨its, rv, p1, _⟩ := I1.tuple hqx
        obtain ⟨its2, rv2, p2, _⟩ := I1.tuple hqy
        obtain ⟨its3, rv3, p3, _⟩ := I1.tuple hqz
        obtain ⟨o1, ho1, _⟩ := id p1
        obtain ⟨o2, ho2, _⟩ := id p2
        obtain ⟨o3, ho3, _⟩ := id p3
        have l1 := Heap.lt_size ho1
        have l2 := Heap.lt_size ho2
        have l3 := Heap.lt_size ho3
        refine zip_begins3 (begins_tuple a its.toArray) (begins_tuple b its2.toArray) (begins_tuple c its3.toArray) p1 p2 p3 fun h' hz hTI hTO h1 h2 h3 hsz hk => wpAny_pyIter_zip hz ?_
        have I2 : Inv X pins σ H1 { s1 with heap := h' } := I1.kept (t' := s1.toks) hk
        have D := zip_sep3 (N := s1.heap.objs.size) (fp1 := [a]) (fp2 := [b]) (fp3 := [c]) (fun q hq => by rw [List.mem_singleton.mp hq]; exact l1) (fun q hq => by rw [List.mem_singleton.mp hq]; exact l2) (fun q hq => by rw [List.mem_singleton.mp hq]; exact l3)
        exact ⟨s1.heap.objs.size + 5, [s1.heap.objs.size + 5, s1.heap.objs.size + 3, s1.heap.objs.size + 4, s1.heap.objs.size, s1.heap.objs.size + 1, s1.heap.objs.size + 2], _, _, H1, rfl, I2, turn_zipT3 D, ⟨hz, hTI, ⟨_, _, _, hTO⟩, ⟨_, h1, rfl, rfl⟩, ⟨_, h2, rfl, rfl⟩, ⟨_, h3, rfl, rfl⟩⟩, fresh6, q⟩
theorem walk_zip3 {K : PySem.W.Frag} {a b c : Addr} {xs ys zs : List V} {n : Nat} (hn : n = min (min xs.length ys.length) zs.length) : Walk (ItzT3 K a b c) n (fun H => SqT K H a xs ∧ SqT K H b ys ∧ SqT K H c zs) (fun i H v H' => ∃ T x y z, v = .ref T ∧ H T = none ∧ H' = upd H T (.tup [x, y, z]) ∧ xs[i]? = some x ∧ ys[i]? = some y ∧ zs[i]? = some z) := by
  subst hn
  refine ⟨fun i _ hi q => ?_, fun _ q => ⟨xs, ys, zs, q.1, q.2.1, q.2.2, by omega, by omega, by omega, by omega⟩, fun i H v H' _ q y => ?_⟩
  · have h1 : i < xs.length := by omega
    have h2 : i < ys.length := by omega
    have h3 : i < zs.length := by omega
    exact ⟨xs, ys, zs, xs[i], ys[i], zs[i], q.1, q.2.1, q.2.2, by simp [h1], by simp [h2], by simp [h3]⟩
  · obtain ⟨T, x, z, w, h1, h2, h3, h4, h5, h6⟩ := y
    exact ⟨T, x, z, w, h1, h2, h3, h4 xs q.1, h5 ys q.2.1, h6 zs q.2.2⟩
end Ev
/-! Soundness: what loops and comprehensions walk. -/
namespace Ev
open PySem PySem.Spec L2
variable {K : Mx} {F F' G H : Hp} {θ θ' : List Addr} {s : Sta} {σ : St}

theorem len2 {α : Type} {l : List α} (h : l.length = 2) : ∃ a b, l = [a, b] := by
  match l, h with
  | [a, b], _ => exact ⟨a, b, rfl⟩

noncomputable def chkIt (D : Ds) (N : List Str) (sc : Scope) (k : Nat) (tg : Tg) (its : List Ex) (iter : Expr) : Bool := match k with
      | 0 => chks D N sc its [iter]
      | 1 => (match iter with
        | .Call (.Name y _) ys [] _ => blB D sc y "range" && chks D N sc its ys && decide (ys.length = 1)
        | _ => false)
      | 2 => (match iter with
        | .Call (.Name y _) ys [] _ => blB D sc y "range" && chks D N sc its ys && decide (ys.length = 2)
        | _ => false)
      | 3 => isTp tg && (match iter with
        | .Call (.Name y _) ys [] _ => blB D sc y "enumerate" && chks D N sc its ys && decide (ys.length = 1)
        | _ => false)
      | 4 => isTp tg && (match iter with
        | .Call (.Name y _) ys [] _ => blB D sc y "zip" && chks D N sc its ys && decide (ys.length = 2)
        | _ => false)
      | 5 => isTp tg && (match iter with
        | .Call (.Name y _) ys [] _ => blB D sc y "zip" && chks D N sc its ys && decide (ys.length = 3)
        | _ => false)
      | 6 => (match iter with
        | .Call (.Name y _) ys [] _ => blB D sc y "range" && chks D N sc its ys && decide (ys.length = 3)
        | _ => false)
      | _ => false
noncomputable def YOk (K : Mx) (F : Hp) (θ : List Addr) (xs : List Tr) : Nat → Hp → V → Hp → Prop := fun i H x H' => ∃ t, xs[i]? = some t ∧
  ((H' = H ∧ Rp K F θ t x) ∨ ∃ p l vs, H p = none ∧ x = .ref p ∧ H' = upd H p (.tup vs) ∧ t = .tup l ∧ Rps K F θ l vs ∧ vs.length ≤ sizeLine)
section
variable (gc : Nat → Option Tr) (cf : CF)
noncomputable def RI (K : Mx) (k : Nat) (its : List Ex) : TI := fun σ H R => ∃ F G θ s vs s1 xs, Rel K F G θ s σ H ∧ evEs gc cf its s = .ok vs s1 ∧ (vs.map s1.deref).all Tr.pure = true ∧ items k (vs.map s1.deref) = some xs ∧
  ∀ J H' F' θ', Rel K F' G θ' s1 σ H' → FLe F F' → θ <+: θ' → Walk J xs.length (fun H => FLe F' H ∧ (vs.all Tr.pure = true ∨ FLe (ownG s1 σ G H') H)) (YOk K F' θ' xs) → R J H'
end
noncomputable def isTupT : Tr → Bool
  | .tup _ => true
  | _ => false
/-- a sequence that stays while others work -/
theorem Rel.stable (R : Rel K F G θ s σ H) {t : Tr} {v : V} {l : List Tr} (r : RpV K F θ σ t v) (h : seqT (s.deref t) = some l) : ∃ a xs, v = .ref a ∧ Rps K F θ l xs ∧
    ∀ H', FLe F H' → (t.pure = true ∨ FLe (ownG s σ G H) H') → if isTupT (s.deref t) = true then SqT K H' a xs else SqL K H' a xs := by
  have pureCase : ∀ {t t' : Tr}, Rp K F θ t v → seqT t = some l → ∃ a xs, v = .ref a ∧ Rps K F θ l xs ∧ ∀ H', FLe F H' → (t'.pure = true ∨ FLe (ownG s σ G H) H') → if isTupT t = true then SqT K H' a xs else SqL K H' a xs := by
    intro t t' r h
    cases r with
    | tup q r => cases h; exact ⟨_, _, rfl, r, fun H' f _ => by rw [if_pos (show isTupT (.tup _) = true from rfl)]; exact f.tup q⟩
    | lst q r => cases h; exact ⟨_, _, rfl, r, fun H' f _ => by rw [if_neg (by simp [isTupT])]; exact SqL.of (f _ _ q)⟩
    | flst q r => cases h; exact ⟨_, _, rfl, r, fun H' f _ => by rw [if_neg (by simp [isTupT])]; exact f.lst q⟩
    | _ => cases h
  cases t with
  | bor i =>
    have r' : σ[i]? = some (some v) := r
    cases e : s.env[i]? with
    | none => rw [deref_none e] at h; cases h
    | some x =>
      have q := R.slot i x e
      rw [deref_slot e] at h ⊢
      cases x with
      | none => cases h
      | val t =>
        obtain ⟨y, e1, q⟩ := q
        rw [r'] at e1
        cases e1
        exact pureCase q h
      | own l' =>
        obtain ⟨a, o, e1, hh, _, _, _, q⟩ := q
        rw [r'] at e1
        cases e1
        cases l' <;> first | (cases h; done) | skip
        cases h
        obtain ⟨xs, rfl, q⟩ := q
        exact ⟨a, xs, rfl, q, fun H' _ g => by rw [if_neg (by simp [isTupT, Ob.tr])]; exact SqL.of ((g.resolve_left (fun z => nomatch z)) _ _ ((ownG_of (s := s) e r').trans hh))⟩
  | _ => exact pureCase (r.rp rfl) h
theorem blB_ok {D : Ds} {gc : Nat → Option Tr} {cf : CF} {X : Cx} {sc : Scope} (C : Cxt D gc cf X sc) {x y : Str} (h : blB D sc x y = true) : x = y ∧ Gl X x ∧ X.mg x = none := by
  unfold blB at h
  obtain ⟨h1, h2⟩ := and2 h
  obtain ⟨h1, h3⟩ := and2 h1
  exact ⟨of_decide_eq_true h1, C.glo _ h3, C.blt _ (of_decide_eq_true h2)⟩
theorem rg3T_get {a c : Int} {n i : Nat} (h : i < n) : (rg3T a c n)[i]? = some (.int (a + i * c)) := by
  unfold rg3T
  simp [h]
theorem rg3T_len {a c : Int} {n : Nat} : (rg3T a c n).length = n := by unfold rg3T; simp
theorem rgT_get {a b : Int} {i : Nat} (h : i < (b - a).toNat) : (rgT a b)[i]? = some (.int (a + i)) := by
  unfold rgT
  rw [List.getElem?_map, List.getElem?_range h]
  rfl
theorem rgT_len {a b : Int} : (rgT a b).length = (b - a).toNat := by unfold rgT; simp
theorem items_seq {ts : List Tr} {xs : List Tr} (h : items 0 ts = some xs) : (∃ z : Str, ts = [.str z] ∧ xs = z.cps.toList.map fun c => .str ⟨#[c]⟩) ∨ ∃ t, ts = [t] ∧ seqT t = some xs := by
  unfold items at h
  split at h
  · cases h; exact .inl ⟨_, rfl, rfl⟩
  · exact .inr ⟨_, rfl, h⟩
  all_goals first | (cases h; done) | contradiction
theorem items_rg1 {ts : List Tr} {xs : List Tr} (h : items 1 ts = some xs) : ∃ n, ts = [.int n] ∧ (-(2 ^ 62) ≤ n ∧ n < 2 ^ 62) ∧ xs = rgT 0 n := by
  unfold items at h
  split at h
  all_goals first
    | (cases h; done)
    | contradiction
    | (split at h
       · cases h; exact ⟨_, rfl, in62_ok (by assumption), rfl⟩
       · cases h)
theorem items_rg2 {ts : List Tr} {xs : List Tr} (h : items 2 ts = some xs) : ∃ a b, ts = [.int a, .int b] ∧ (-(2 ^ 62) ≤ a ∧ a < 2 ^ 62 ∧ -(2 ^ 62) ≤ b ∧ b < 2 ^ 62) ∧ xs = rgT a b := by
  unfold items at h
  split at h
  all_goals first
    | (cases h; done)
    | contradiction
    | (split at h
       · rename_i hb; cases h; obtain ⟨q1, q2⟩ := and2 hb; exact ⟨_, _, rfl, ⟨(in62_ok q1).1, (in62_ok q1).2, in62_ok q2⟩, rfl⟩
       · cases h)
theorem items_enum {ts : List Tr} {xs : List Tr} (h : items 3 ts = some xs) : ∃ t l, ts = [t] ∧ seqT t = some l ∧ xs = enumT l := by
  unfold items at h
  split at h
  all_goals first
    | (cases h; done)
    | contradiction
    | (obtain ⟨l, h1, h2⟩ := map_some h; exact ⟨_, l, rfl, h1, h2.symm⟩)
theorem items_zip {ts : List Tr} {xs : List Tr} (h : items 4 ts = some xs) : ∃ t u l m, ts = [t, u] ∧ seqT t = some l ∧ seqT u = some m ∧ xs = zipT l m ∧ isTupT t = isTupT u := by
  unfold items at h
  split at h
  all_goals first
    | (cases h; done)
    | contradiction
    | (cases h; exact ⟨_, _, _, _, rfl, rfl, rfl, rfl, rfl⟩)
theorem items_zip3 {ts : List Tr} {xs : List Tr} (h : items 5 ts = some xs) : ∃ l m n, ts = [.tup l, .tup m, .tup n] ∧ xs = zip3T l m n := by
  unfold items at h
  split at h
  all_goals first
    | (cases h; done)
    | contradiction
    | (cases h; exact ⟨_, _, _, rfl, rfl⟩)
theorem items_rg3 {ts : List Tr} {xs : List Tr} (h : items 6 ts = some xs) : ∃ a b c, ts = [.int a, .int b, .int c] ∧ RgC a b c (Builtin.Range.rangeSize a b c).toNat ∧ xs = rg3T a c (Builtin.Range.rangeSize a b c).toNat := by
  unfold items at h
  split at h
  all_goals first
    | (cases h; done)
    | contradiction
    | (split at h
       · rename_i hb
         cases h
         unfold rg3Ok at hb
         simp only [Bool.and_eq_true, decide_eq_true_eq] at hb
         obtain ⟨⟨⟨q1, q2⟩, q3⟩, q4⟩ := hb
         exact ⟨_, _, _, rfl, ⟨q1, q2, q3, by omega⟩, rfl⟩
       · cases h)
theorem zip3T_get : ∀ {l m n : List Tr} {i : Nat} {t u v : Tr}, l[i]? = some t → m[i]? = some u → n[i]? = some v → (zip3T l m n)[i]? = some (.tup [t, u, v])
  | x :: xs, y :: ys, z :: zs, 0, t, u, v, h1, h2, h3 => by
    simp only [List.getElem?_cons_zero, Option.some.injEq] at h1 h2 h3
    subst h1 h2 h3
    rfl
  | x :: xs, y :: ys, z :: zs, i + 1, t, u, v, h1, h2, h3 => by
    simp only [List.getElem?_cons_succ] at h1 h2 h3
    simp only [zip3T, List.getElem?_cons_succ]
    exact zip3T_get h1 h2 h3
  | [], _, _, i, _, _, _, h1, _, _ => by simp at h1
  | _ :: _, [], _, i, _, _, _, _, h2, _ => by simp at h2
  | _ :: _, _ :: _, [], i, _, _, _, _, _, h3 => by simp at h3
theorem zip3T_len : ∀ {l m n : List Tr}, (zip3T l m n).length = min (min l.length m.length) n.length
  | x :: xs, y :: ys, z :: zs => by
    simp only [zip3T, List.length_cons, zip3T_len (l := xs) (m := ys) (n := zs)]
    omega
  | [], _, _ => by simp [zip3T]
  | _ :: _, [], _ => by simp [zip3T]
  | _ :: _, _ :: _, [] => by simp [zip3T]
theorem len3x {α : Type} {l : List α} (h : l.length = 3) : ∃ a b c, l = [a, b, c] := by
  match l, h with
  | [a, b, c], _ => exact ⟨a, b, c, rfl⟩
theorem enumT_get {l : List Tr} {i : Nat} {t : Tr} (h : l[i]? = some t) : (enumT l)[i]? = some (.tup [.int i, t]) := by
  unfold enumT
  have hi : i < l.length := (List.getElem?_eq_some_iff.mp h).1
  rw [List.getElem?_zipWith, List.getElem?_range hi, h]
theorem enumT_len {l : List Tr} : (enumT l).length = l.length := by unfold enumT; simp
theorem zipT_get {l m : List Tr} {i : Nat} {t u : Tr} (h : l[i]? = some t) (h' : m[i]? = some u) : (zipT l m)[i]? = some (.tup [t, u]) := by
  unfold zipT
  rw [List.getElem?_zipWith, h, h']
theorem zipT_len {l m : List Tr} : (zipT l m).length = min l.length m.length := by unfold zipT; simp

section
variable {D : Ds} {gc : Nat → Option Tr} {cf : CF} {X : Cx}
theorem two_le_line : 2 ≤ sizeLine := by decide
/-- what a loop walks -/
theorem sI {sc : Scope} (C : Cxt D gc cf X sc) {k : Nat} {tg : Tg} {tge iter : Expr} {its : List Ex} (hPE : ∀ e x, its = [e] → chk D X.N sc e x = true → PE X x (RE gc cf (MX D.cl X) e)) (hPA : ∀ xs, chks D X.N sc its xs = true → PA X xs (RA gc cf (MX D.cl X) its))
    (ht : chkT X.N sc tg tge = true ∨ ∃ N sc', chkT N sc' tg tge = true) (h : chkIt D X.N sc k tg its iter = true) : PI X tge iter (RI gc cf (MX D.cl X) k its) := by
  have tgTup : isTp tg = true → ∃ es kk pos, tge = .Tuple es kk pos := by
    intro hp
    obtain ⟨N, sc, ht⟩ : ∃ N sc', chkT N sc' tg tge = true := by
      rcases ht with z | z
      · exact ⟨_, _, z⟩
      · exact z
    cases tg with
    | nm i => cases hp
    | tp gs =>
      simp only [chkT] at ht
      split at ht
      · exact ⟨_, _, _, rfl⟩
      · cases ht
  refine ⟨fun pins s0 σ H R0 I q => ?_⟩
  obtain ⟨F, G, θ, s, vs, s1, xs, R, e, hp, hi, kk⟩ := q
  unfold chkIt at h
  split at h
  · -- a sequence
    cases its with
    | nil => simp only [evEs] at e; cases e; rcases items_seq hi with ⟨t, h1, h2⟩ | ⟨t, h1, h2⟩ <;> cases h1
    | cons ee es =>
      simp only [chks] at h
      obtain ⟨h3, h4⟩ := and2 h
      obtain ⟨h3, h5⟩ := and2 h3
      cases es with
      | cons _ _ => exact nomatch h4
      | nil =>
        have pe := hPE ee iter rfl h5
        simp only [evEs] at e
        obtain ⟨t', s2, e1, e2⟩ := Rs.bind_eq e
        cases e2
        rcases items_seq hi with ⟨z, h1, h2⟩ | ⟨t, h1, h2⟩
        · rw [List.map_cons, List.map_nil] at h1
          injection h1 with h1
          refine (pi_str (tg := tge) pe).run pins s0 σ H R0 I ⟨F, G, θ, s, t', s1, R, e1, fun v H1 F1 θ1 R1 l1 p1 r1 => ?_⟩
          have rr := R1.read r1 (by rw [h1]; rfl)
          rw [h1] at rr
          cases strH rr
          refine ⟨z, rfl, kk _ H1 F1 θ1 R1 l1 p1 ?_⟩
          rw [h2, List.length_map, Array.length_toList]
          refine (walk_str (z := z)).mono (fun _ _ => trivial) fun i H' x H'' hi' _ y => ?_
          obtain ⟨y1, c, y2, rfl⟩ := y
          exact ⟨.str ⟨#[c]⟩, by rw [List.getElem?_map, Array.getElem?_toList, y2]; rfl, .inl ⟨y1, .str _⟩⟩
        cases h1
        by_cases hT : isTupT (s1.deref t') = true
        · refine (pi_tup (tg := tge) pe).run pins s0 σ H R0 I ⟨F, G, θ, s, t', s1, R, e1, fun v H1 F1 θ1 R1 l1 p1 r1 => ?_⟩
          obtain ⟨a, ys, rfl, rr, st⟩ := R1.stable r1 h2
          have st' : ∀ H', FLe F1 H' → ([t'].all Tr.pure = true ∨ FLe (ownG s1 σ G H1) H') → SqT X.K H' a ys := fun H' f g => by have := st H' f (g.imp_left (by simp)); rw [if_pos hT] at this; exact this
          refine ⟨a, rfl, ⟨ys, st' H1 R1.m.fle (.inr R1.out.gle)⟩, kk _ H1 F1 θ1 R1 l1 p1 ?_⟩
          rw [← rr.length]
          refine (walk_tup (xs := ys)).mono (fun H' hh => st' H' hh.1 hh.2) fun i H' x H'' hi' _ y => ?_
          obtain ⟨t, g1, g2⟩ := rr.get' y.2
          exact ⟨t, g1, .inl ⟨y.1, g2⟩⟩
        · refine (pi_list (tg := tge) pe).run pins s0 σ H R0 I ⟨F, G, θ, s, t', s1, R, e1, fun v H1 F1 θ1 R1 l1 p1 r1 => ?_⟩
          obtain ⟨a, ys, rfl, rr, st⟩ := R1.stable r1 h2
          have st' : ∀ H', FLe F1 H' → ([t'].all Tr.pure = true ∨ FLe (ownG s1 σ G H1) H') → SqL X.K H' a ys := fun H' f g => by have := st H' f (g.imp_left (by simp)); rw [if_neg hT] at this; exact this
          refine ⟨a, rfl, ⟨ys, st' H1 R1.m.fle (.inr R1.out.gle)⟩, kk _ H1 F1 θ1 R1 l1 p1 ?_⟩
          rw [← rr.length]
          refine (walk_list (xs := ys)).mono (fun H' hh => st' H' hh.1 hh.2) fun i H' x H'' hi' _ y => ?_
          obtain ⟨t, g1, g2⟩ := rr.get' y.2
          exact ⟨t, g1, .inl ⟨y.1, g2⟩⟩
  · -- range(n)
    split at h
    · obtain ⟨h1, h2⟩ := and2 h
      obtain ⟨h1, h3⟩ := and2 h1
      obtain ⟨rfl, g1, g2⟩ := blB_ok C h1
      have hl := of_decide_eq_true h2
      obtain ⟨y, rfl⟩ := List.length_eq_one_iff.mp hl
      have pa := hPA _ h3
      obtain ⟨n, h4, h5, rfl⟩ := items_rg1 hi
      have hs : starEach [y] X.env = [(false, eval y X.env)] := by
        cases its with
        | nil => exact nomatch h3
        | cons _ _ =>
          simp only [chks] at h3
          exact star_cons (by simpa using (and2 (and2 h3).1).1)
      refine (pi_range1 (tg := tge) g1 g2 pa hs).run pins s0 σ H R0 I ⟨F, G, θ, s, vs, s1, R, e, fun ws H1 F1 θ1 R1 l1 p1 r1 => ?_⟩
      have rh := R1.reads r1 hp
      rw [h4] at rh
      cases rh with
      | cons q1 q2 =>
        cases q2
        cases intH q1
        refine ⟨n, rfl, h5.1, h5.2, kk _ H1 F1 θ1 R1 l1 p1 ?_⟩
        rw [rgT_len, Int.sub_zero]
        refine (walk_range (lo := 0)).mono (fun _ _ => trivial) fun i H' x H'' hi' _ y => ?_
        obtain ⟨y1, rfl⟩ := y
        exact ⟨_, rgT_get (by omega), .inl ⟨y1, .int _⟩⟩
    · cases h
  · -- range(a, b)
    split at h
    · obtain ⟨h1, h2⟩ := and2 h
      obtain ⟨h1, h3⟩ := and2 h1
      obtain ⟨rfl, g1, g2⟩ := blB_ok C h1
      have hl := of_decide_eq_true h2
      obtain ⟨y, z, rfl⟩ := len2 hl
      have pa := hPA _ h3
      obtain ⟨n, n', h4, h5, rfl⟩ := items_rg2 hi
      obtain ⟨hs, hs2⟩ : starEach [y, z] X.env = [(false, eval y X.env), (false, eval z X.env)] ∧ starEach [z] X.env = [(false, eval z X.env)] := by
        cases its with
        | nil => exact nomatch h3
        | cons _ es =>
          simp only [chks] at h3
          obtain ⟨h6, h7⟩ := and2 h3
          cases es with
          | nil => exact nomatch h7
          | cons _ _ =>
            simp only [chks] at h7
            have z1 : starEach [z] X.env = [(false, eval z X.env)] := star_cons (by simpa using (and2 (and2 h7).1).1)
            exact ⟨by rw [star_cons (by simpa using (and2 h6).1), z1], z1⟩
      refine (pi_range2 (tg := tge) g1 g2 pa hs hs2).run pins s0 σ H R0 I ⟨F, G, θ, s, vs, s1, R, e, fun ws H1 F1 θ1 R1 l1 p1 r1 => ?_⟩
      have rh := R1.reads r1 hp
      rw [h4] at rh
      cases rh with
      | cons q1 q2 =>
        cases q2 with
        | cons q2 q3 =>
          cases q3
          cases intH q1
          cases intH q2
          refine ⟨n, n', rfl, h5, kk _ H1 F1 θ1 R1 l1 p1 ?_⟩
          rw [rgT_len]
          refine (walk_range (lo := n)).mono (fun _ _ => trivial) fun i H' x H'' hi' _ y => ?_
          obtain ⟨y1, rfl⟩ := y
          exact ⟨_, rgT_get hi', .inl ⟨y1, .int _⟩⟩
    · cases h
  · -- enumerate
    obtain ⟨htp, h⟩ := and2 h
    obtain ⟨es, kk', pos, rfl⟩ := tgTup htp
    split at h
    · obtain ⟨h1, h2⟩ := and2 h
      obtain ⟨h1, h3⟩ := and2 h1
      obtain ⟨rfl, g1, g2⟩ := blB_ok C h1
      have hl := of_decide_eq_true h2
      obtain ⟨y, rfl⟩ := List.length_eq_one_iff.mp hl
      have pa := hPA _ h3
      obtain ⟨t, l, h4, h5, rfl⟩ := items_enum hi
      have hs : starEach [y] X.env = [(false, eval y X.env)] := by
        cases its with
        | nil => exact nomatch h3
        | cons _ _ =>
          simp only [chks] at h3
          exact star_cons (by simpa using (and2 (and2 h3).1).1)
      cases vs with
      | nil => cases h4
      | cons v0 vs =>
        rw [List.map_cons] at h4
        obtain ⟨h6, h7⟩ := List.cons.inj h4
        cases vs with
        | cons _ _ => cases h7
        | nil =>
          subst h6
          by_cases hT : isTupT (s1.deref v0) = true
          · refine (pi_enumT g1 g2 pa hs).run pins s0 σ H R0 I ⟨F, G, θ, s, _, s1, R, e, fun ws H1 F1 θ1 R1 l1 p1 r1 => ?_⟩
            cases r1 with
            | cons r1 r2 =>
              cases r2
              obtain ⟨a, ys, rfl, rr, st⟩ := R1.stable r1 h5
              have st' : ∀ H', FLe F1 H' → ([v0].all Tr.pure = true ∨ FLe (ownG s1 σ G H1) H') → SqT X.K H' a ys := fun H' f g => by have := st H' f (g.imp_left (by simp)); rw [if_pos hT] at this; exact this
              refine ⟨a, ys, rfl, st' H1 R1.m.fle (.inr R1.out.gle), kk _ H1 F1 θ1 R1 l1 p1 ?_⟩
              rw [enumT_len, ← rr.length]
              refine (walk_enumT (xs := ys)).mono (fun H' hh => st' H' hh.1 hh.2) fun i H' x H'' hi' _ y => ?_
              obtain ⟨T, x1, rfl, hT', rfl, y3⟩ := y
              obtain ⟨t1, g3, g4⟩ := rr.get' y3
              exact ⟨_, enumT_get g3, .inr ⟨T, _, _, hT', rfl, rfl, rfl, .cons (.int _) (.cons g4 .nil), two_le_line⟩⟩
          · refine (pi_enum g1 g2 pa hs).run pins s0 σ H R0 I ⟨F, G, θ, s, _, s1, R, e, fun ws H1 F1 θ1 R1 l1 p1 r1 => ?_⟩
            cases r1 with
            | cons r1 r2 =>
              cases r2
              obtain ⟨a, ys, rfl, rr, st⟩ := R1.stable r1 h5
              have st' : ∀ H', FLe F1 H' → ([v0].all Tr.pure = true ∨ FLe (ownG s1 σ G H1) H') → SqL X.K H' a ys := fun H' f g => by have := st H' f (g.imp_left (by simp)); rw [if_neg hT] at this; exact this
              refine ⟨a, ys, rfl, st' H1 R1.m.fle (.inr R1.out.gle), kk _ H1 F1 θ1 R1 l1 p1 ?_⟩
              rw [enumT_len, ← rr.length]
              refine (walk_enum (xs := ys)).mono (fun H' hh => st' H' hh.1 hh.2) fun i H' x H'' hi' _ y => ?_
              obtain ⟨T, x1, y1, rfl, hT', rfl, y2, y3⟩ := y
              cases y2
              obtain ⟨t1, g3, g4⟩ := rr.get' y3
              exact ⟨_, enumT_get g3, .inr ⟨T, _, _, hT', rfl, rfl, rfl, .cons (.int _) (.cons g4 .nil), two_le_line⟩⟩
    · cases h
  · -- zip
    obtain ⟨htp, h⟩ := and2 h
    obtain ⟨es, kk', pos, rfl⟩ := tgTup htp
    split at h
    · obtain ⟨h1, h2⟩ := and2 h
      obtain ⟨h1, h3⟩ := and2 h1
      obtain ⟨rfl, g1, g2⟩ := blB_ok C h1
      have hl := of_decide_eq_true h2
      obtain ⟨y, z, rfl⟩ := len2 hl
      have pa := hPA _ h3
      obtain ⟨t, u, l, m, h4, h5, h5', rfl, hsame⟩ := items_zip hi
      obtain ⟨hs, hs2⟩ : starEach [y, z] X.env = (false, eval y X.env) :: starEach [z] X.env ∧ starEach [z] X.env = [(false, eval z X.env)] := by
        cases its with
        | nil => exact nomatch h3
        | cons _ es =>
          simp only [chks] at h3
          obtain ⟨h6, h7⟩ := and2 h3
          cases es with
          | nil => exact nomatch h7
          | cons _ _ =>
            simp only [chks] at h7
            have z1 : starEach [z] X.env = [(false, eval z X.env)] := star_cons (by simpa using (and2 (and2 h7).1).1)
            exact ⟨star_cons (by simpa using (and2 h6).1), z1⟩
      cases vs with
      | nil => cases h4
      | cons v0 vs =>
        rw [List.map_cons] at h4
        obtain ⟨h6, h7⟩ := List.cons.inj h4
        cases vs with
        | nil => cases h7
        | cons v1 vs =>
          rw [List.map_cons] at h7
          obtain ⟨h10, h8⟩ := List.cons.inj h7
          cases vs with
          | cons _ _ => cases h8
          | nil =>
            subst h6 h10
            refine (RZ.pi_zipA g1 g2 pa hs (by rw [hs2]; rfl)).run pins s0 σ H R0 I ⟨F, G, θ, s, _, s1, R, e, fun ws H1 F1 θ1 R1 l1 p1 r1 => ?_⟩
            cases r1 with
            | cons r1 r2 =>
              cases r2 with
              | cons r2 r3 =>
                cases r3
                obtain ⟨a, ys, rfl, rr, st⟩ := R1.stable r1 h5
                obtain ⟨b, zs, rfl, rr', st2⟩ := R1.stable r2 h5'
                refine ⟨a, b, ys, zs, rfl, ?_⟩
                have yok : ∀ i H' x H'', i < min ys.length zs.length → YPair (fun i => ys[i]?) (fun i => zs[i]?) i H' x H'' → YOk (MX D.cl X) F1 θ1 (zipT l m) i H' x H'' := by
                  rintro i H' x H'' _ ⟨T, x1, y1, rfl, hT', rfl, y2, y3⟩
                  obtain ⟨t1, g3, g4⟩ := rr.get' y2
                  obtain ⟨t2, g5, g6⟩ := rr'.get' y3
                  exact ⟨_, zipT_get g3 g5, .inr ⟨T, _, _, hT', rfl, rfl, rfl, .cons g4 (.cons g6 .nil), two_le_line⟩⟩
                by_cases hT : isTupT (s1.deref v0) = true
                · have hT2 : isTupT (s1.deref v1) = true := hsame ▸ hT
                  have st' : ∀ H', FLe F1 H' ∧ ([v0, v1].all Tr.pure = true ∨ FLe (ownG s1 σ G H1) H') → SqT X.K H' a ys ∧ SqT X.K H' b zs := fun H' f => by
                    have z1 := st H' f.1 (f.2.imp_left (by simp; intro a _; exact a))
                    have z2 := st2 H' f.1 (f.2.imp_left (by simp))
                    rw [if_pos hT] at z1
                    rw [if_pos hT2] at z2
                    exact ⟨z1, z2⟩
                  obtain ⟨q1, q2⟩ := st' H1 ⟨R1.m.fle, .inr R1.out.gle⟩
                  refine .inr ⟨q1, q2, kk _ H1 F1 θ1 R1 l1 p1 ?_⟩
                  rw [zipT_len, ← rr.length, ← rr'.length]
                  refine ⟨fun i H' hi' hh => ?_, fun H' hh => ?_, fun i H' x H'' hi' hh yy => yok i H' x H'' hi' ?_⟩
                  · obtain ⟨w1, w2⟩ := st' H' hh
                    exact ⟨ys, zs, ys[i]'(by omega), zs[i]'(by omega), w1, w2, by simp, by simp⟩
                  · obtain ⟨w1, w2⟩ := st' H' hh
                    exact ⟨ys, zs, w1, w2, by omega⟩
                  · obtain ⟨w1, w2⟩ := st' H' hh
                    obtain ⟨T, x1, y1, e1, e2, e3, e4, e5⟩ := yy
                    exact ⟨T, x1, y1, e1, e2, e3, e4 ys w1, e5 zs w2⟩
                · have hT2 : ¬ isTupT (s1.deref v1) = true := hsame ▸ hT
                  have st' : ∀ H', FLe F1 H' ∧ ([v0, v1].all Tr.pure = true ∨ FLe (ownG s1 σ G H1) H') → SqL X.K H' a ys ∧ SqL X.K H' b zs := fun H' f => by
                    have z1 := st H' f.1 (f.2.imp_left (by simp; intro a _; exact a))
                    have z2 := st2 H' f.1 (f.2.imp_left (by simp))
                    rw [if_neg hT] at z1
                    rw [if_neg hT2] at z2
                    exact ⟨z1, z2⟩
                  obtain ⟨q1, q2⟩ := st' H1 ⟨R1.m.fle, .inr R1.out.gle⟩
                  refine .inl ⟨q1, q2, kk _ H1 F1 θ1 R1 l1 p1 ?_⟩
                  rw [zipT_len, ← rr.length, ← rr'.length]
                  exact (walk_zip (xs := ys) (ys := zs) rfl).mono (fun H' hh => st' H' hh) fun i H' x H'' hi' _ y => yok i H' x H'' hi' y
    · cases h
  · -- zip of three
    obtain ⟨htp, h⟩ := and2 h
    obtain ⟨es, kk', pos, rfl⟩ := tgTup htp
    split at h
    · obtain ⟨h1, h2⟩ := and2 h
      obtain ⟨h1, h3⟩ := and2 h1
      obtain ⟨rfl, g1, g2⟩ := blB_ok C h1
      have hl := of_decide_eq_true h2
      obtain ⟨y, z, z', rfl⟩ := len3x hl
      have pa := hPA _ h3
      obtain ⟨l, m, n, h4, rfl⟩ := items_zip3 hi
      obtain ⟨hs, hs2⟩ : starEach [y, z, z'] X.env = (false, eval y X.env) :: starEach [z, z'] X.env ∧ starEach [z, z'] X.env = [(false, eval z X.env), (false, eval z' X.env)] := by
        cases its with
        | nil => exact nomatch h3
        | cons _ es =>
          simp only [chks] at h3
          obtain ⟨h6, h7⟩ := and2 h3
          cases es with
          | nil => exact nomatch h7
          | cons _ es =>
            simp only [chks] at h7
            obtain ⟨h8, h9⟩ := and2 h7
            cases es with
            | nil => exact nomatch h9
            | cons _ _ =>
              simp only [chks] at h9
              have z1 : starEach [z'] X.env = [(false, eval z' X.env)] := star_cons (by simpa using (and2 (and2 h9).1).1)
              have z2 : starEach [z, z'] X.env = [(false, eval z X.env), (false, eval z' X.env)] := by rw [star_cons (by simpa using (and2 h8).1), z1]
              exact ⟨star_cons (by simpa using (and2 h6).1), z2⟩
      cases vs with
      | nil => cases h4
      | cons v0 vs =>
        rw [List.map_cons] at h4
        obtain ⟨h6, h7⟩ := List.cons.inj h4
        cases vs with
        | nil => cases h7
        | cons v1 vs =>
          rw [List.map_cons] at h7
          obtain ⟨h10, h8⟩ := List.cons.inj h7
          cases vs with
          | nil => cases h8
          | cons v2 vs =>
            rw [List.map_cons] at h8
            obtain ⟨h11, h12⟩ := List.cons.inj h8
            cases vs with
            | cons _ _ => cases h12
            | nil =>
              refine (pi_zip3 g1 g2 pa hs (by rw [hs2]; rfl)).run pins s0 σ H R0 I ⟨F, G, θ, s, _, s1, R, e, fun ws H1 F1 θ1 R1 l1 p1 r1 => ?_⟩
              cases r1 with
              | cons r1 r2 =>
                cases r2 with
                | cons r2 r3 =>
                  cases r3 with
                  | cons r3 r4 =>
                    cases r4
                    obtain ⟨a, ys, rfl, rr, st⟩ := R1.stable r1 (show seqT (s1.deref v0) = some l by rw [h6]; rfl)
                    obtain ⟨b, zs, rfl, rr', st2⟩ := R1.stable r2 (show seqT (s1.deref v1) = some m by rw [h10]; rfl)
                    obtain ⟨c, ws, rfl, rr2, st3⟩ := R1.stable r3 (show seqT (s1.deref v2) = some n by rw [h11]; rfl)
                    have hT0 : isTupT (s1.deref v0) = true := by rw [h6]; rfl
                    have hT1 : isTupT (s1.deref v1) = true := by rw [h10]; rfl
                    have hT2 : isTupT (s1.deref v2) = true := by rw [h11]; rfl
                    have st' : ∀ H', FLe F1 H' ∧ ([v0, v1, v2].all Tr.pure = true ∨ FLe (ownG s1 σ G H1) H') → SqT X.K H' a ys ∧ SqT X.K H' b zs ∧ SqT X.K H' c ws := fun H' f => by
                      have z1 := st H' f.1 (f.2.imp_left (by simp; intro a _ _; exact a))
                      have z2 := st2 H' f.1 (f.2.imp_left (by simp; intro _ a _; exact a))
                      have z3 := st3 H' f.1 (f.2.imp_left (by simp))
                      rw [if_pos hT0] at z1
                      rw [if_pos hT1] at z2
                      rw [if_pos hT2] at z3
                      exact ⟨z1, z2, z3⟩
                    obtain ⟨q1, q2, q3⟩ := st' H1 ⟨R1.m.fle, .inr R1.out.gle⟩
                    refine ⟨a, b, c, ys, zs, ws, rfl, q1, q2, q3, kk _ H1 F1 θ1 R1 l1 p1 ?_⟩
                    rw [zip3T_len, ← rr.length, ← rr'.length, ← rr2.length]
                    refine (walk_zip3 (xs := ys) (ys := zs) (zs := ws) rfl).mono (fun H' hh => st' H' hh) fun i H' x H'' hi' _ y => ?_
                    obtain ⟨T, x1, y1, w1, rfl, hT', rfl, y2, y3, y4⟩ := y
                    obtain ⟨t1, g3, g4⟩ := rr.get' y2
                    obtain ⟨t2, g5, g6⟩ := rr'.get' y3
                    obtain ⟨t3, g7, g8⟩ := rr2.get' y4
                    exact ⟨_, zip3T_get g3 g5 g7, .inr ⟨T, _, _, hT', rfl, rfl, rfl, .cons g4 (.cons g6 (.cons g8 .nil)), three_le_line⟩⟩
    · cases h
  · -- range with a step
    split at h
    · obtain ⟨h1, h2⟩ := and2 h
      obtain ⟨h1, h3⟩ := and2 h1
      obtain ⟨rfl, g1, g2⟩ := blB_ok C h1
      have hl := of_decide_eq_true h2
      obtain ⟨y, z, z', rfl⟩ := len3x hl
      have pa := hPA _ h3
      obtain ⟨i1, i2, i3, h4, h5, rfl⟩ := items_rg3 hi
      obtain ⟨hs, hs2⟩ : starEach [y, z, z'] X.env = (false, eval y X.env) :: starEach [z, z'] X.env ∧ starEach [z, z'] X.env = [(false, eval z X.env), (false, eval z' X.env)] := by
        cases its with
        | nil => exact nomatch h3
        | cons _ es =>
          simp only [chks] at h3
          obtain ⟨h6, h7⟩ := and2 h3
          cases es with
          | nil => exact nomatch h7
          | cons _ es =>
            simp only [chks] at h7
            obtain ⟨h8, h9⟩ := and2 h7
            cases es with
            | nil => exact nomatch h9
            | cons _ _ =>
              simp only [chks] at h9
              have z1 : starEach [z'] X.env = [(false, eval z' X.env)] := star_cons (by simpa using (and2 (and2 h9).1).1)
              have z2 : starEach [z, z'] X.env = [(false, eval z X.env), (false, eval z' X.env)] := by rw [star_cons (by simpa using (and2 h8).1), z1]
              exact ⟨star_cons (by simpa using (and2 h6).1), z2⟩
      refine (pi_range3 (tg := tge) g1 g2 pa hs (by rw [hs2]; rfl)).run pins s0 σ H R0 I ⟨F, G, θ, s, vs, s1, R, e, fun ws H1 F1 θ1 R1 l1 p1 r1 => ?_⟩
      have rh := R1.reads r1 hp
      rw [h4] at rh
      cases rh with
      | cons q1 q2 =>
        cases q2 with
        | cons q2 q3 =>
          cases q3 with
          | cons q3 q4 =>
            cases q4
            cases intH q1
            cases intH q2
            cases intH q3
            refine ⟨i1, i2, i3, _, rfl, h5, kk _ H1 F1 θ1 R1 l1 p1 ?_⟩
            rw [rg3T_len]
            refine (walk_rangeC (lo := i1) (c := i3)).mono (fun _ _ => trivial) fun i H' x H'' hi' _ y => ?_
            obtain ⟨y1, rfl⟩ := y
            exact ⟨_, rg3T_get hi', .inl ⟨y1, .int _⟩⟩
    · cases h
  · cases h
end
end Ev
/-! Soundness of expressions. -/
namespace Ev
open PySem PySem.Spec L2
open PyProof.Rows hiding St

noncomputable def isBo : Expr → Bool
  | .BoolOp .. => true
  | _ => false
section
variable {D : Ds} {gc : Nat → Option Tr} {cf : CF} {X : Cx}
/-- what is shown of an expression -/
structure Snd (D : Ds) (gc : Nat → Option Tr) (cf : CF) (X : Cx) (e : Ex) (ex : Expr) : Prop where
  pe : PE X ex (RE gc cf (MX D.cl X) e)
  pt : PT X ex (RT gc cf (MX D.cl X) e)
  pw : isBo ex = true → PW X ex (RT gc cf (MX D.cl X) e)
theorem Snd.mk1 {e : Ex} {ex : Expr} (h : PE X ex (RE gc cf (MX D.cl X) e)) (hb : isBo ex = false) (he : ∀ whole, isTrue ex X.env whole = (do let v ← whole; standAt ex.pos; holding [v] (truthy v))) (ev : ∀ s, evX gc cf e true s = fin true (evX gc cf e false s)) : Snd D gc cf X e ex :=
  ⟨h, pt_of h he ev, fun z => by rw [hb] at z; cases z⟩
theorem fin_bl {r : Rs Tr} {b : Bool} {s' : Sta} (h : fin true r = .ok (.bl b) s') : ∃ x, r = .ok x s' ∧ truth (s'.deref x) = some b := by
  obtain ⟨x, s1, e2, e3⟩ := Rs.bind_eq h
  obtain ⟨e4, rfl⟩ := Rs.of_eq e3
  obtain ⟨b', e5, e6⟩ := map_some e4
  injection e6 with e6
  subst e6
  exact ⟨x, e2, e5⟩
theorem opC2_ok {o : Cp} {x y : Tr} {b : Bool} (h : opC2 o x y = some b) : x.pure = true ∧ y.pure = true ∧ opC o x y = some b := by
  unfold opC2 at h
  split at h
  · rename_i hh
    obtain ⟨h1, h2⟩ := and2 hh
    exact ⟨h1, h2, h⟩
  · cases h
variable {K : Mx} {F F' G H : Hp} {θ θ' : List Addr} {s : Sta} {σ : St}
theorem sBin {sc : Scope} (C : Cxt D gc cf X sc) {o : Op} {a b : Ex} {x y : Expr} {pos : Pos} (ha : PE X x (RE gc cf (MX D.cl X) a)) (hb : PE X y (RE gc cf (MX D.cl X) b)) : PE X (.BinOp x o.py y pos) (RE gc cf (MX D.cl X) (.bin o a b)) := by
  refine ⟨fun pins s0 σ H Q I h => ?_⟩
  obtain ⟨F, G, θ, s, t, s', R, ev, k⟩ := h
  simp only [evX, fin] at ev
  obtain ⟨x1, s1, e1, ev⟩ := Rs.bind_eq ev
  obtain ⟨y1, s2, e2, ev⟩ := Rs.bind_eq ev
  obtain ⟨e3, rfl⟩ := Rs.of_eq ev
  obtain ⟨n1, n2⟩ := opB_nb e3
  exact (pe_op (opB_ok (cl := D.cl) e3) ha hb).run pins s0 σ H Q I ⟨F, G, θ, s, x1, s1, R, e1, fun v H1 F1 θ1 R1 l1 p1 r1 => ⟨F1, G, θ1, s1, y1, s2, R1, e2, fun w H2 F2 θ2 R2 l2 p2 r2 =>
    ⟨F2, G, θ2, s2, σ, R2, R2.read (r1.mono l2 p2) n1, R2.read r2 n2, fun u H' F' R' l' r' => k u H' F' θ2 R' (l1.trans (l2.trans l')) (p1.trans p2) (RpV.of r')⟩⟩⟩
theorem sCmp {sc : Scope} (C : Cxt D gc cf X sc) {o : Cp} {a b : Ex} {x y : Expr} {pos : Pos} (ha : PE X x (RE gc cf (MX D.cl X) a)) (hb : PE X y (RE gc cf (MX D.cl X) b)) (hm : behindInMarks o.py y = false) : Snd D gc cf X (.cmp o a b) (.Compare x [o.py] [y] pos) := by
  have main : ∀ {md : Bool} {s s' : Sta} {t : Tr}, evX gc cf (.cmp o a b) md s = .ok t s' → ∃ x1 s1 y1 c, evX gc cf a false s = .ok x1 s1 ∧ evX gc cf b false s1 = .ok y1 s' ∧ opC2 o (s'.deref x1) (s'.deref y1) = some c ∧ t = .bl c := by
    intro md s s' t ev
    have e0 : ∃ c, ((evX gc cf a false s).bind fun x s1 => (evX gc cf b false s1).bind fun y s2 => Rs.of ((opC2 o (s2.deref x) (s2.deref y)).map Tr.bl) s2) = .ok (.bl c) s' ∧ t = .bl c := by
      have e9 : ∀ {t s'}, ((evX gc cf a false s).bind fun x s1 => (evX gc cf b false s1).bind fun y s2 => Rs.of ((opC2 o (s2.deref x) (s2.deref y)).map Tr.bl) s2) = .ok t s' → ∃ c, t = .bl c := by
        intro t s' ev
        obtain ⟨x1, s1, e1, ev⟩ := Rs.bind_eq ev
        obtain ⟨y1, s2, e2, ev⟩ := Rs.bind_eq ev
        obtain ⟨e3, rfl⟩ := Rs.of_eq ev
        obtain ⟨c, _, rfl⟩ := map_some e3
        exact ⟨c, rfl⟩
      cases md with
      | false =>
        simp only [evX, fin] at ev
        obtain ⟨c, rfl⟩ := e9 ev
        exact ⟨c, ev, rfl⟩
      | true =>
        simp only [evX] at ev
        obtain ⟨x, s1, e2, e3⟩ := Rs.bind_eq ev
        obtain ⟨e4, rfl⟩ := Rs.of_eq e3
        obtain ⟨c, rfl⟩ := e9 e2
        obtain ⟨b', e5, rfl⟩ := map_some e4
        cases e5
        exact ⟨_, e2, rfl⟩
    obtain ⟨c, ev2, rfl⟩ := e0
    obtain ⟨x1, s1, e1, ev3⟩ := Rs.bind_eq ev2
    obtain ⟨y1, s2, e2, ev4⟩ := Rs.bind_eq ev3
    obtain ⟨e3, rfl⟩ := Rs.of_eq ev4
    obtain ⟨c', e4, e5⟩ := map_some e3
    injection e5 with e5
    subst e5
    exact ⟨x1, s1, y1, _, e1, e2, e4, rfl⟩
  refine ⟨⟨fun pins s0 σ H Q I h => ?_⟩, ⟨fun pins s0 σ H Q I h => ?_⟩, fun z => nomatch z⟩
  · obtain ⟨F, G, θ, s, t, s', R, ev, k⟩ := h
    obtain ⟨x1, s1, y1, c, e1, e2, e3, rfl⟩ := main ev
    obtain ⟨n1, n2, e3⟩ := opC2_ok e3
    exact (pe_cmpR (opC_ok (cl := D.cl) C.u64 e3) ha hb hm).run pins s0 σ H Q I ⟨F, G, θ, s, x1, s1, R, e1, fun v H1 F1 θ1 R1 l1 p1 r1 => ⟨F1, G, θ1, s1, y1, s', R1, e2, fun w H2 F2 θ2 R2 l2 p2 r2 =>
      ⟨F2, θ2, R2.m.fle, R2.read (r1.mono l2 p2) n1, R2.read r2 n2, k _ H2 F2 θ2 R2 (l1.trans l2) (p1.trans p2) (RpV.of (.bl c))⟩⟩⟩
  · obtain ⟨F, G, θ, s, b0, s', R, ev, k⟩ := h
    obtain ⟨x1, s1, y1, c, e1, e2, e3, e9⟩ := main ev
    cases e9
    obtain ⟨n1, n2, e3⟩ := opC2_ok e3
    exact (pt_cmpR (opC_ok (cl := D.cl) C.u64 e3) ha hb hm).run pins s0 σ H Q I ⟨F, G, θ, s, x1, s1, R, e1, fun v H1 F1 θ1 R1 l1 p1 r1 => ⟨F1, G, θ1, s1, y1, s', R1, e2, fun w H2 F2 θ2 R2 l2 p2 r2 =>
      ⟨F2, θ2, R2.m.fle, R2.read (r1.mono l2 p2) n1, R2.read r2 n2, _, rfl, k H2 F2 θ2 R2 (l1.trans l2) (p1.trans p2)⟩⟩⟩
theorem sChain {sc : Scope} (C : Cxt D gc cf X sc) {o p : Cp} {a b c : Ex} {x y z : Expr} {pos : Pos} (ha : PE X x (RE gc cf (MX D.cl X) a)) (hb : PE X y (RE gc cf (MX D.cl X) b)) (hc : PE X z (RE gc cf (MX D.cl X) c)) (hm : lastMarks [o.py, p.py] [y, z] = false) : Snd D gc cf X (.chain o p a b c) (.Compare x [o.py, p.py] [y, z] pos) := by
  have e9 : ∀ {s t s'}, evX gc cf (.chain o p a b c) false s = .ok t s' → ∃ r, t = .bl r := by
    intro s t s' ev
    simp only [evX, fin] at ev
    obtain ⟨x1, s1, e1, ev⟩ := Rs.bind_eq ev
    obtain ⟨y1, s2, e2, ev⟩ := Rs.bind_eq ev
    split at ev
    · obtain ⟨z1, s3, e3, ev⟩ := Rs.bind_eq ev
      obtain ⟨e3, rfl⟩ := Rs.of_eq ev
      obtain ⟨c, _, rfl⟩ := map_some e3
      exact ⟨c, rfl⟩
    · cases ev; exact ⟨false, rfl⟩
    · cases ev
  have e10 : ∀ {s : Sta} {b0 : Bool} {s' : Sta}, evX gc cf (.chain o p a b c) true s = .ok (.bl b0) s' → evX gc cf (.chain o p a b c) false s = .ok (.bl b0) s' := by
    intro s b0 s' ev
    have ev' : fin true (evX gc cf (.chain o p a b c) false s) = .ok (.bl b0) s' := by
      simp only [evX, fin] at ev ⊢
      exact ev
    obtain ⟨x, h1, h2⟩ := fin_bl ev'
    obtain ⟨r, rfl⟩ := e9 h1
    cases h2
    exact h1
  have rd : ∀ {σ : St} {H : Hp} {Q : VK}, RE gc cf (MX D.cl X) (.chain o p a b c) σ H Q → (∃ r r', OpR X (compareOp o.py) r ∧ OpR X (compareOp p.py) r' ∧ tChain r r' (RE gc cf (MX D.cl X) a) (RE gc cf (MX D.cl X) b) (RE gc cf (MX D.cl X) c) σ H Q) := by
    intro σ H Q h
    obtain ⟨F, G, θ, s, t, s', R, ev, k⟩ := h
    simp only [evX, fin] at ev
    obtain ⟨x1, s1, e1, ev⟩ := Rs.bind_eq ev
    obtain ⟨y1, s2, e2, ev⟩ := Rs.bind_eq ev
    split at ev
    · rename_i e3
      obtain ⟨z1, s3, e4, ev⟩ := Rs.bind_eq ev
      obtain ⟨e5, rfl⟩ := Rs.of_eq ev
      obtain ⟨d, e6, rfl⟩ := map_some e5
      obtain ⟨n1, n2, e3⟩ := opC2_ok e3
      obtain ⟨n3, n4, e6⟩ := opC2_ok e6
      refine ⟨_, _, opC_ok (cl := D.cl) C.u64 e3, opC_ok (cl := D.cl) C.u64 e6, F, G, θ, s, x1, s1, R, e1, fun v H1 F1 θ1 R1 l1 p1 r1 => ⟨F1, G, θ1, s1, y1, s2, R1, e2, fun w H2 F2 θ2 R2 l2 p2 r2 => ?_⟩⟩
      refine ⟨F2, θ2, R2.m.fle, R2.read (r1.mono l2 p2) n1, R2.read r2 n2, true, rfl, ?_⟩
      rw [if_pos rfl]
      exact ⟨F2, G, θ2, s2, z1, s3, R2, e4, fun u H3 F3 θ3 R3 l3 p3 r3 => ⟨F3, θ3, R3.m.fle, R3.read (r2.mono l3 p3) n3, R3.read r3 n4, k _ H3 F3 θ3 R3 (l1.trans (l2.trans l3)) (p1.trans (p2.trans p3)) (RpV.of (.bl _))⟩⟩
    · rename_i e3
      cases ev
      obtain ⟨n1, n2, e3⟩ := opC2_ok e3
      refine ⟨_, fun _ _ _ _ => False, opC_ok (cl := D.cl) C.u64 e3, fun _ _ _ _ _ _ _ _ _ _ _ _ z => z.elim, F, G, θ, s, x1, s1, R, e1, fun v H1 F1 θ1 R1 l1 p1 r1 => ⟨F1, G, θ1, s1, y1, _, R1, e2, fun w H2 F2 θ2 R2 l2 p2 r2 => ?_⟩⟩
      refine ⟨F2, θ2, R2.m.fle, R2.read (r1.mono l2 p2) n1, R2.read r2 n2, false, rfl, ?_⟩
      rw [if_neg Bool.false_ne_true]
      exact k _ H2 F2 θ2 R2 (l1.trans l2) (p1.trans p2) (RpV.of (.bl _))
    · cases ev
  refine ⟨⟨fun pins s0 σ H Q I h => ?_⟩, ⟨fun pins s0 σ H Q I h => ?_⟩, fun z => nomatch z⟩
  · obtain ⟨r, r', o1, o2, h⟩ := rd h
    exact (pe_chain o1 o2 ha hb hc hm).run pins s0 σ H Q I h
  · obtain ⟨F, G, θ, s, b0, s', R, ev, k⟩ := h
    obtain ⟨r, r', o1, o2, h⟩ := rd (Q := fun v H' => ∃ c, v = .bl c ∧ Q c H') ⟨F, G, θ, s, _, s', R, e10 ev, fun v H' F' θ' R' l p rr => by
      cases (show Rp _ _ _ _ _ from rr)
      exact ⟨b0, rfl, k H' F' θ' R' l p⟩⟩
    exact (pt_chain o1 o2 ha hb hc hm).run pins s0 σ H Q I h
end
end Ev
/-! Soundness of expressions, the theorem. -/
namespace Ev
open PySem PySem.Spec L2
open PyProof.Rows hiding St
section
variable {D : Ds} {gc : Nat → Option Tr} {cf : CF} {X : Cx} {K : Mx} {F F' G H : Hp} {θ θ' : List Addr} {s : Sta} {σ : St}
/-- the result is a truth value -/
theorem bl_only {r : Rs Tr} {f : Sta → Rs Tr} {g : Sta → Rs Tr} {t : Tr} {s' : Sta} (h : (r.bind fun x s1 => match x with
    | .bl true => f s1
    | .bl false => g s1
    | _ => .no) = .ok t s') : ∃ b s1, r = .ok (.bl b) s1 ∧ (if b = true then f s1 else g s1) = .ok t s' := by
  obtain ⟨x, s1, e1, e2⟩ := Rs.bind_eq h
  cases x with
  | bl b => cases b <;> exact ⟨_, s1, e1, e2⟩
  | _ => cases e2
theorem sAnd {a b : Ex} {x y : Expr} {r : List Expr} {pos : Pos} (ha : Snd D gc cf X a x) (hb1 : r = [] → Snd D gc cf X b y) (hb2 : r ≠ [] → Snd D gc cf X b (.BoolOp .And (y :: r) pos)) : Snd D gc cf X (.and_ a b) (.BoolOp .And (x :: y :: r) pos) := by
  have pe2 : PE X (.BoolOp .And (y :: r) pos) (RE gc cf (MX D.cl X) b) := by
    cases r with
    | nil => exact pe_one (hb1 rfl).pe
    | cons z w => exact (hb2 (by simp)).pe
  have pw2 : PW X (.BoolOp .And (y :: r) pos) (RT gc cf (MX D.cl X) b) := by
    cases r with
    | nil => exact pw_and1 (hb1 rfl).pt
    | cons z w => exact (hb2 (by simp)).pw rfl
  have pw : PW X (.BoolOp .And (x :: y :: r) pos) (RT gc cf (MX D.cl X) (.and_ a b)) := by
    refine ⟨fun wh pins s0 σ H Q I h => ?_⟩
    obtain ⟨F, G, θ, s, b0, s', R, ev, k⟩ := h
    simp only [evX] at ev
    obtain ⟨c, s1, e1, e2⟩ := bl_only ev
    refine (pw_and ha.pt pw2).run wh pins s0 σ H Q I ⟨F, G, θ, s, c, s1, R, e1, fun H1 F1 θ1 R1 l1 p1 => ?_⟩
    cases c with
    | true =>
      rw [if_pos rfl] at e2 ⊢
      exact ⟨F1, G, θ1, s1, b0, s', R1, e2, fun H2 F2 θ2 R2 l2 p2 => k H2 F2 θ2 R2 (l1.trans l2) (p1.trans p2)⟩
    | false =>
      rw [if_neg Bool.false_ne_true] at e2 ⊢
      cases e2
      exact k H1 F1 θ1 R1 l1 p1
  refine ⟨⟨fun pins s0 σ H Q I h => ?_⟩, pw.pt, fun _ => pw⟩
  obtain ⟨F, G, θ, s, t, s', R, ev, k⟩ := h
  simp only [evX] at ev
  obtain ⟨c, s1, e1, e2⟩ := bl_only ev
  refine (pe_and ha.pe pe2).run pins s0 σ H Q I ⟨F, G, θ, s, .bl c, s1, R, e1, fun v H1 F1 θ1 R1 l1 p1 r1 => ?_⟩
  cases (show Rp _ _ _ _ _ from r1)
  refine ⟨c, rfl, ?_⟩
  cases c with
  | true =>
    rw [if_pos rfl] at e2 ⊢
    exact ⟨F1, G, θ1, s1, t, s', R1, e2, fun w H2 F2 θ2 R2 l2 p2 r2 => k w H2 F2 θ2 R2 (l1.trans l2) (p1.trans p2) r2⟩
  | false =>
    rw [if_neg Bool.false_ne_true] at e2 ⊢
    cases e2
    exact k _ H1 F1 θ1 R1 l1 p1 (RpV.of (.bl false))
theorem bl_only' {r : Rs Tr} {f : Sta → Rs Tr} {g : Sta → Rs Tr} {t : Tr} {s' : Sta} (h : (r.bind fun x s1 => match x with
    | .bl false => f s1
    | .bl true => g s1
    | _ => .no) = .ok t s') : ∃ b s1, r = .ok (.bl b) s1 ∧ (if b = true then g s1 else f s1) = .ok t s' := by
  obtain ⟨x, s1, e1, e2⟩ := Rs.bind_eq h
  cases x with
  | bl b => cases b <;> exact ⟨_, s1, e1, e2⟩
  | _ => cases e2
theorem sOr {a b : Ex} {x y : Expr} {r : List Expr} {pos : Pos} (ha : Snd D gc cf X a x) (hb1 : r = [] → Snd D gc cf X b y) (hb2 : r ≠ [] → Snd D gc cf X b (.BoolOp .Or (y :: r) pos)) : Snd D gc cf X (.or_ a b) (.BoolOp .Or (x :: y :: r) pos) := by
  have pe2 : PE X (.BoolOp .Or (y :: r) pos) (RE gc cf (MX D.cl X) b) := by
    cases r with
    | nil => exact pe_one (hb1 rfl).pe
    | cons z w => exact (hb2 (by simp)).pe
  have pw2 : PW X (.BoolOp .Or (y :: r) pos) (RT gc cf (MX D.cl X) b) := by
    cases r with
    | nil => exact pw_or1 (hb1 rfl).pt
    | cons z w => exact (hb2 (by simp)).pw rfl
  have pw : PW X (.BoolOp .Or (x :: y :: r) pos) (RT gc cf (MX D.cl X) (.or_ a b)) := by
    refine ⟨fun wh pins s0 σ H Q I h => ?_⟩
    obtain ⟨F, G, θ, s, b0, s', R, ev, k⟩ := h
    simp only [evX] at ev
    obtain ⟨c, s1, e1, e2⟩ := bl_only' ev
    refine (pw_or ha.pt pw2).run wh pins s0 σ H Q I ⟨F, G, θ, s, c, s1, R, e1, fun H1 F1 θ1 R1 l1 p1 => ?_⟩
    cases c with
    | false =>
      rw [if_neg Bool.false_ne_true] at e2 ⊢
      exact ⟨F1, G, θ1, s1, b0, s', R1, e2, fun H2 F2 θ2 R2 l2 p2 => k H2 F2 θ2 R2 (l1.trans l2) (p1.trans p2)⟩
    | true =>
      rw [if_pos rfl] at e2 ⊢
      cases e2
      exact k H1 F1 θ1 R1 l1 p1
  refine ⟨⟨fun pins s0 σ H Q I h => ?_⟩, pw.pt, fun _ => pw⟩
  obtain ⟨F, G, θ, s, t, s', R, ev, k⟩ := h
  simp only [evX] at ev
  obtain ⟨c, s1, e1, e2⟩ := bl_only' ev
  refine (pe_or ha.pe pe2).run pins s0 σ H Q I ⟨F, G, θ, s, .bl c, s1, R, e1, fun v H1 F1 θ1 R1 l1 p1 r1 => ?_⟩
  cases (show Rp _ _ _ _ _ from r1)
  refine ⟨c, rfl, ?_⟩
  cases c with
  | false =>
    rw [if_neg Bool.false_ne_true] at e2 ⊢
    exact ⟨F1, G, θ1, s1, t, s', R1, e2, fun w H2 F2 θ2 R2 l2 p2 r2 => k w H2 F2 θ2 R2 (l1.trans l2) (p1.trans p2) r2⟩
  | true =>
    rw [if_pos rfl] at e2 ⊢
    cases e2
    exact k _ H1 F1 θ1 R1 l1 p1 (RpV.of (.bl true))
theorem bl_one {r : Rs Tr} {f : Bool → Sta → Rs Tr} {t : Tr} {s' : Sta} (h : (r.bind fun x s1 => match x with
    | .bl b => f b s1
    | _ => .no) = .ok t s') : ∃ b s1, r = .ok (.bl b) s1 ∧ f b s1 = .ok t s' := by
  obtain ⟨x, s1, e1, e2⟩ := Rs.bind_eq h
  cases x with
  | bl b => exact ⟨b, s1, e1, e2⟩
  | _ => cases e2
theorem sNot {a : Ex} {x : Expr} {pos : Pos} (ha : Snd D gc cf X a x) : Snd D gc cf X (.not_ a) (.UnaryOp .Not x pos) := by
  refine ⟨⟨fun pins s0 σ H Q I h => ?_⟩, ⟨fun pins s0 σ H Q I h => ?_⟩, fun z => nomatch z⟩
  · obtain ⟨F, G, θ, s, t, s', R, ev, k⟩ := h
    simp only [evX] at ev
    obtain ⟨c, s1, e1, e2⟩ := bl_one ev
    cases e2
    obtain ⟨x1, e3, e4⟩ := fin_bl e1
    exact (pe_notT ha.pe).run pins s0 σ H Q I ⟨F, G, θ, s, x1, _, R, e3, fun v H1 F1 θ1 R1 l1 p1 r1 => ⟨c, truth_ok R1.m.fle e4 (R1.read r1 (truth_nb e4)), k _ H1 F1 θ1 R1 l1 p1 (RpV.of (.bl _))⟩⟩
  · obtain ⟨F, G, θ, s, b0, s', R, ev, k⟩ := h
    simp only [evX] at ev
    obtain ⟨c, s1, e1, e2⟩ := bl_one ev
    cases e2
    exact (pt_not ha.pt).run pins s0 σ H Q I ⟨F, G, θ, s, c, _, R, e1, fun H1 F1 θ1 R1 l1 p1 => k H1 F1 θ1 R1 l1 p1⟩
theorem sIte {c a b : Ex} {z x y : Expr} {pos : Pos} (hc : Snd D gc cf X c z) (ha : Snd D gc cf X a x) (hb : Snd D gc cf X b y) : Snd D gc cf X (.ite c a b) (.IfExp z x y pos) := by
  refine ⟨⟨fun pins s0 σ H Q I h => ?_⟩, ⟨fun pins s0 σ H Q I h => ?_⟩, fun z => nomatch z⟩
  · obtain ⟨F, G, θ, s, t, s', R, ev, k⟩ := h
    simp only [evX] at ev
    obtain ⟨c0, s1, e1, e2⟩ := bl_only ev
    refine (pe_ifExp hc.pt ha.pe hb.pe).run pins s0 σ H Q I ⟨F, G, θ, s, c0, s1, R, e1, fun H1 F1 θ1 R1 l1 p1 => ?_⟩
    cases c0 with
    | true => exact ⟨F1, G, θ1, s1, t, s', R1, e2, fun w H2 F2 θ2 R2 l2 p2 r2 => k w H2 F2 θ2 R2 (l1.trans l2) (p1.trans p2) r2⟩
    | false => exact ⟨F1, G, θ1, s1, t, s', R1, e2, fun w H2 F2 θ2 R2 l2 p2 r2 => k w H2 F2 θ2 R2 (l1.trans l2) (p1.trans p2) r2⟩
  · obtain ⟨F, G, θ, s, t, s', R, ev, k⟩ := h
    simp only [evX] at ev
    obtain ⟨c0, s1, e1, e2⟩ := bl_only ev
    refine isTrue_IfExp (thn (hc.pt.run pins s0 σ H (fun d H1 => d = c0 ∧ ∃ F1 θ1, Rel (MX D.cl X) F1 G θ1 s1 σ H1 ∧ FLe F F1 ∧ θ <+: θ1) I ⟨F, G, θ, s, c0, s1, R, e1, fun H1 F1 θ1 R1 l1 p1 => ⟨rfl, F1, θ1, R1, l1, p1⟩⟩) fun d s2 hd => ?_)
    obtain ⟨H1, I1, hd, F1, θ1, R1, l1, p1⟩ := hd
    subst hd
    cases d with
    | true => exact ha.pt.run pins s2 σ H1 Q I1 ⟨F1, G, θ1, s1, t, s', R1, e2, fun H2 F2 θ2 R2 l2 p2 => k H2 F2 θ2 R2 (l1.trans l2) (p1.trans p2)⟩
    | false => exact hb.pt.run pins s2 σ H1 Q I1 ⟨F1, G, θ1, s1, t, s', R1, e2, fun H2 F2 θ2 R2 l2 p2 => k H2 F2 θ2 R2 (l1.trans l2) (p1.trans p2)⟩
theorem sSlot {i : Nat} {x : Str} {pos : Pos} (hN : X.N[i]? = some x) (hv : Vis X.env.scope x) (hk : okN x = true) : Snd D gc cf X (.var i) (.Name x pos) := by
  obtain ⟨k1, k2⟩ := okN_ok hk
  refine Snd.mk1 ⟨fun pins s0 σ H Q I h => ?_⟩ rfl (fun _ => rfl) (fun s => by simp only [evX, fin])
  obtain ⟨F, G, θ, s, t, s', R, ev, k⟩ := h
  simp only [evX, fin] at ev
  have pe := pe_var (X := X) (i := i) (pos := pos) hN hv k1 k2
  split at ev
  · rename_i t' e
    cases ev
    obtain ⟨v, e1, q⟩ := R.slot i _ e
    exact pe.run pins s0 σ H Q I ⟨v, e1, k v H F θ R (FLe.refl F) (List.prefix_refl _) (RpV.of q)⟩
  · rename_i l e
    cases ev
    obtain ⟨a, xs, e1, q⟩ := R.slot i _ e
    exact pe.run pins s0 σ H Q I ⟨_, e1, k _ H F θ R (FLe.refl F) (List.prefix_refl _) e1⟩
  · cases ev
theorem sMv {i : Nat} {x : Str} {pos : Pos} (hN : X.N[i]? = some x) (hv : Vis X.env.scope x) (hk : okN x = true) : Snd D gc cf X (.mv i) (.Name x pos) := by
  obtain ⟨k1, k2⟩ := okN_ok hk
  refine Snd.mk1 ⟨fun pins s0 σ H Q I h => ?_⟩ rfl (fun _ => rfl) (fun s => by simp only [evX, fin])
  obtain ⟨F, G, θ, s, t, s', R, ev, k⟩ := h
  simp only [evX, fin] at ev
  have pe := pe_var (X := X) (i := i) (pos := pos) hN hv k1 k2
  split at ev
  · rename_i l e
    cases ev
    obtain ⟨a, xs, e1, h, f, g, t, q⟩ := R.slot i _ e
    exact pe.run pins s0 σ H Q I ⟨_, e1, k _ H _ θ (R.freeze e e1 h q) (FLe.upd1 f) (List.prefix_refl _) (RpV.of ((q.mono (FLe.upd1 f) (List.prefix_refl _)).rp upd_same))⟩
  · cases ev
theorem sConst {t : Tr} {v : V} {e : Ex} {ex : Expr} (hp : PE X ex (tC v)) (hr : ∀ F θ, Rp (MX D.cl X) F θ t v) (he : ∀ s, evX gc cf e false s = .ok t s) (hb : isBo ex = false) (hi : ∀ whole, isTrue ex X.env whole = (do let v ← whole; standAt ex.pos; holding [v] (truthy v))) (ev : ∀ s, evX gc cf e true s = fin true (evX gc cf e false s)) : Snd D gc cf X e ex := by
  refine Snd.mk1 ⟨fun pins s0 σ H Q I h => ?_⟩ hb hi ev
  obtain ⟨F, G, θ, s, t, s', R, e1, k⟩ := h
  rw [he] at e1
  cases e1
  exact hp.run pins s0 σ H Q I (k v H F θ R (FLe.refl F) (List.prefix_refl _) (RpV.of (hr F θ)))
theorem sGl {sc : Scope} (C : Cxt D gc cf X sc) {k : Nat} {x : Str} {pos : Pos} (h : D.gls.lookup k = some x) (hg : Gl X x) (hk : okN x = true) : Snd D gc cf X (.gl k) (.Name x pos) := by
  obtain ⟨k1, k2⟩ := okN_ok hk
  refine Snd.mk1 ⟨fun pins s0 σ H Q I hh => ?_⟩ rfl (fun _ => rfl) (fun s => by simp only [evX, fin])
  obtain ⟨F, G, θ, s, t, s', R, ev, kk⟩ := hh
  simp only [evX, fin] at ev
  obtain ⟨e1, rfl⟩ := Rs.of_eq ev
  obtain ⟨v, u, hm, r, rp⟩ := C.gl k t x e1 h
  exact (pe_glob hg hm r k1).run pins s0 σ H Q I (kk v H F θ R (FLe.refl F) (List.prefix_refl _) (RpV.of (rp.mono (fun a o z => by cases z) (List.nil_prefix))))
/-- displays -/
theorem all_pure {ts : List Tr} {n : Nat} (h : (ts.all Tr.pure && decide (ts.length ≤ n)) = true) : ts.all Tr.pure = true ∧ ts.length ≤ n := by
  obtain ⟨h1, h2⟩ := and2 h
  exact ⟨h1, of_decide_eq_true h2⟩
theorem sTup {es : List Ex} {xs : List Expr} {kk : Nat} {pos : Pos} (h : PA X xs (RA gc cf (MX D.cl X) es)) : Snd D gc cf X (.tup es) (.Tuple xs kk pos) := by
  refine Snd.mk1 ⟨fun pins s0 σ H Q I hh => ?_⟩ rfl (fun _ => rfl) (fun s => by simp only [evX, fin])
  obtain ⟨F, G, θ, s, t, s', R, ev, k⟩ := hh
  simp only [evX, fin] at ev
  obtain ⟨ts, s1, e1, ev⟩ := Rs.bind_eq ev
  split at ev
  · rename_i hc
    obtain ⟨h1, h2⟩ := all_pure hc
    cases ev
    refine (pe_tup h).run pins s0 σ H Q I ⟨F, G, θ, s, ts, _, R, e1, fun vs H1 F1 θ1 R1 l1 p1 r1 => ?_⟩
    have r := r1.rps h1
    refine ⟨by rw [r.length]; exact h2, fun p np => ?_⟩
    have f := R1.m.fle.none np
    exact k _ _ _ θ1 (R1.newF np) (l1.trans (FLe.upd1 f)) p1 (RpV.of (.tup (SqT.of upd_same) (r.mono (FLe.upd1 f) (List.prefix_refl _))))
  · cases ev
theorem sLst {es : List Ex} {xs : List Expr} {pos : Pos} (h : PA X xs (RA gc cf (MX D.cl X) es)) : Snd D gc cf X (.lst es) (.List xs pos) := by
  refine Snd.mk1 ⟨fun pins s0 σ H Q I hh => ?_⟩ rfl (fun _ => rfl) (fun s => by simp only [evX, fin])
  obtain ⟨F, G, θ, s, t, s', R, ev, k⟩ := hh
  simp only [evX, fin] at ev
  obtain ⟨ts, s1, e1, ev⟩ := Rs.bind_eq ev
  split at ev
  · rename_i hc
    obtain ⟨h1, h2⟩ := all_pure hc
    cases ev
    refine (pe_lst h).run pins s0 σ H Q I ⟨F, G, θ, s, ts, _, R, e1, fun vs H1 F1 θ1 R1 l1 p1 r1 => ?_⟩
    have r := r1.rps h1
    refine ⟨by rw [r.length]; exact h2, fun p np => ?_⟩
    have f := R1.m.fle.none np
    exact k _ _ _ θ1 (R1.newF np) (l1.trans (FLe.upd1 f)) p1 (RpV.of (.lst upd_same (r.mono (FLe.upd1 f) (List.prefix_refl _))))
  · cases ev
theorem sShd {es : List Ex} {xs : List Expr} {pos : Pos} (h : PA X xs (RA gc cf (MX D.cl X) es)) : Snd D gc cf X (.shd es) (.List xs pos) := by
  refine Snd.mk1 ⟨fun pins s0 σ H Q I hh => ?_⟩ rfl (fun _ => rfl) (fun s => by simp only [evX, fin])
  obtain ⟨F, G, θ, s, t, s', R, ev, k⟩ := hh
  simp only [evX, fin] at ev
  obtain ⟨ts, s1, e1, ev⟩ := Rs.bind_eq ev
  split at ev
  · rename_i hc
    obtain ⟨h1, h2⟩ := all_pure hc
    cases ev
    refine (pe_lst h).run pins s0 σ H Q I ⟨F, G, θ, s, ts, s1, R, e1, fun vs H1 F1 θ1 R1 l1 p1 r1 => ?_⟩
    have r := r1.rps h1
    refine ⟨by rw [r.length]; exact h2, fun p np => ?_⟩
    have hl := R1.m.len
    refine k _ _ _ _ (R1.share (l := .lst ts) np ⟨vs, rfl, r⟩) l1 (p1.trans (List.prefix_append _ _)) (RpV.of (.ob ?_))
    rw [hl]
    simp
  · cases ev
theorem sNeg {a : Ex} {x : Expr} {pos : Pos} (ha : PE X x (RE gc cf (MX D.cl X) a)) : Snd D gc cf X (.neg a) (.UnaryOp .USub x pos) := by
  refine Snd.mk1 ⟨fun pins s0 σ H Q I hh => ?_⟩ rfl (fun _ => rfl) (fun s => by simp only [evX, fin])
  obtain ⟨F, G, θ, s, t, s', R, ev, k⟩ := hh
  simp only [evX, fin] at ev
  obtain ⟨x1, s1, e1, ev⟩ := Rs.bind_eq ev
  cases x1 with
  | int i =>
    cases ev
    refine (pe_un un_neg ha).run pins s0 σ H Q I ⟨F, G, θ, s, .int i, _, R, e1, fun v H1 F1 θ1 R1 l1 p1 r1 => ?_⟩
    cases (show Rp _ _ _ _ _ from r1)
    exact ⟨i, rfl, k _ H1 F1 θ1 R1 l1 p1 (RpV.of (.int _))⟩
  | _ => cases ev
theorem plainIx {y : Expr} (h : isSlice y = false) : PlainIx y := by
  intro o i
  cases y <;> first | rfl | (exact nomatch h)
theorem idxT_nb2 {x y t : Tr} (h : idxT x y = some t) : y.pure = true := by
  cases y with
  | bor i => cases x <;> simp [idxT, dgetT, keyT, nkey] at h
  | _ => rfl
theorem sIdx {sc : Scope} (C : Cxt D gc cf X sc) {a b : Ex} {x y : Expr} {pos : Pos} (ha : PE X x (RE gc cf (MX D.cl X) a)) (hb : PE X y (RE gc cf (MX D.cl X) b)) (hs : isSlice y = false) : Snd D gc cf X (.idx a b) (.Subscript x y pos) := by
  refine Snd.mk1 ⟨fun pins s0 σ H Q I hh => ?_⟩ rfl (fun _ => rfl) (fun s => by simp only [evX, fin])
  obtain ⟨F, G, θ, s, t, s', R, ev, k⟩ := hh
  simp only [evX, fin] at ev
  obtain ⟨x1, s1, e1, ev⟩ := Rs.bind_eq ev
  obtain ⟨y1, s2, e2, ev⟩ := Rs.bind_eq ev
  refine (pe_ix (ix_seq.or (ix_dict (by have := C.un; omega))) ha hb (plainIx hs)).run pins s0 σ H Q I ⟨F, G, θ, s, x1, s1, R, e1, fun v H1 F1 θ1 R1 l1 p1 r1 => ⟨F1, G, θ1, s1, y1, s2, R1, e2, fun w H2 F2 θ2 R2 l2 p2 r2 => ?_⟩⟩
  split at ev
  · rename_i n e3
    split at ev
    · rename_i l e4
      obtain ⟨e5, rfl⟩ := Rs.of_eq ev
      have rd := R2.read (r1.mono l2 p2) (by rw [e3]; rfl)
      rw [e3] at rd
      have rd' : Rp (MX D.cl X) F2 θ2 (.ob n) v := rd
      have py : y1.pure = true := by
        cases y1 <;> first | rfl | (simp only [idxT] at e5; cases e5)
      cases rd' with
      | ob hn =>
        obtain ⟨a', q1, q2, q3, zs, q4, q5⟩ := R2.m.ob n _ e4 (fun z => nomatch z)
        rw [hn] at q1
        cases q1
        obtain ⟨xs, rfl, q5⟩ := q5
        exact idxT_ok R2 e5 (show RpH (MX D.cl X) F2 θ2 H2 (.lst l) (.ref _) from ⟨_, xs, rfl, q4, q5⟩) (RpH.of R2.m.fle (r2.rp py)) fun u H' F' R' l' r' => k u H' F' θ2 R' (l1.trans (l2.trans l')) (p1.trans p2) (RpV.of r')
    · cases ev
  · obtain ⟨e5, rfl⟩ := Rs.of_eq ev
    exact idxT_ok R2 e5 (R2.read (r1.mono l2 p2) (idxT_nb e5)) (R2.read r2 (idxT_nb2 e5)) fun u H' F' R' l' r' => k u H' F' θ2 R' (l1.trans (l2.trans l')) (p1.trans p2) (RpV.of r')
theorem sOrV {a b : Ex} {x y : Expr} {r : List Expr} {pos : Pos} (ha : Snd D gc cf X a x) (hb1 : r = [] → Snd D gc cf X b y) (hb2 : r ≠ [] → Snd D gc cf X b (.BoolOp .Or (y :: r) pos)) : PE X (.BoolOp .Or (x :: y :: r) pos) (RE gc cf (MX D.cl X) (.orV a b)) := by
  have pe2 : PE X (.BoolOp .Or (y :: r) pos) (RE gc cf (MX D.cl X) b) := by
    cases r with
    | nil => exact pe_one (hb1 rfl).pe
    | cons z w => exact (hb2 (by simp)).pe
  refine ⟨fun pins s0 σ H Q I h => ?_⟩
  obtain ⟨F, G, θ, s, t, s', R, ev, k⟩ := h
  simp only [evX, fin] at ev
  obtain ⟨x1, s1, e1, ev⟩ := Rs.bind_eq ev
  refine (pe_orT ha.pe pe2).run pins s0 σ H Q I ⟨F, G, θ, s, x1, s1, R, e1, fun v H1 F1 θ1 R1 l1 p1 r1 => ?_⟩
  split at ev
  · rename_i e2
    cases ev
    refine ⟨true, truth_ok R1.m.fle e2 (R1.read r1 (truth_nb e2)), ?_⟩
    rw [if_pos rfl]
    exact k v H1 F1 θ1 R1 l1 p1 r1
  · rename_i e2
    refine ⟨false, truth_ok R1.m.fle e2 (R1.read r1 (truth_nb e2)), ?_⟩
    rw [if_neg Bool.false_ne_true]
    exact ⟨F1, G, θ1, s1, t, s', R1, ev, fun w H2 F2 θ2 R2 l2 p2 r2 => k w H2 F2 θ2 R2 (l1.trans l2) (p1.trans p2) r2⟩
  · cases ev
theorem attrBase {x : Expr} {f : Str} {env : Env} {w : Sem Value} (h : isCall x = false) : attributeBase x f env w = w := by
  cases x with
  | Call g xs ks p =>
    cases g <;> first | rfl | skip
    cases xs <;> first | rfl | skip
    cases ks <;> first | rfl | (exact nomatch h)
  | _ => rfl
theorem getK_fs {f : Str} : ∀ {fs : List (Str × V)} {l : List Tr} {t : Tr} {K : Mx} {F : Hp} {θ : List Addr}, Rps K F θ l (fs.map (·.2)) → getK f (fs.map (·.1)) l = some t → f ∈ fs.map (·.1) ∧ ∃ v, fs.lookup f = some v ∧ Rp K F θ t v
  | [], l, t, _, _, _, r, h => by simp only [List.map_nil, getK] at h; cases h
  | p :: fs, [], t, _, _, _, r, h => by cases r
  | p :: fs, x :: l, t, _, _, _, r, h => by
    rw [List.map_cons] at r h
    cases r with
    | cons r1 r2 =>
      obtain ⟨g, v⟩ := p
      simp only [getK] at h
      split at h
      · rename_i e
        have e' : g = f := e
        subst e'
        cases h
        exact ⟨by simp, v, by simp [List.lookup], r1⟩
      · rename_i e
        have e' : ¬ g = f := e
        obtain ⟨h1, w, h2, h3⟩ := getK_fs r2 h
        refine ⟨by rw [List.map_cons]; exact List.mem_cons_of_mem _ h1, w, ?_, h3⟩
        have hb : (f == g) = false := beq_eq_false_iff_ne.mpr (fun z => e' z.symm)
        simp only [List.lookup, hb]
        exact h2
theorem sFld {sc : Scope} (C : Cxt D gc cf X sc) {a : Ex} {x : Expr} {f : Str} {pos : Pos} (hf : f ∈ D.fl) (hx : isCall x = false) (ha : PE X x (RE gc cf (MX D.cl X) a)) : Snd D gc cf X (.fld a f) (.Attribute x f pos) := by
  refine Snd.mk1 ⟨fun pins s0 σ H Q I hh => ?_⟩ rfl (fun _ => rfl) (fun s => by simp only [evX, fin])
  obtain ⟨F, G, θ, s, t, s', R, ev, k⟩ := hh
  simp only [evX, fin] at ev
  obtain ⟨x1, s1, e1, ev⟩ := Rs.bind_eq ev
  refine (pe_fld ha (attrBase hx)).run pins s0 σ H Q I ⟨F, G, θ, s, x1, s1, R, e1, fun v H1 F1 θ1 R1 l1 p1 r1 => ?_⟩
  split at ev
  · rename_i c ns l e3
    obtain ⟨e5, rfl⟩ := Rs.of_eq ev
    have rd := R1.read r1 (by rw [e3]; rfl)
    rw [e3] at rd
    obtain ⟨a, C0, dx, fs, rfl, h1, h2, h3, h4, h5⟩ := rd
    subst h4
    obtain ⟨g1, w, g2, g3⟩ := getK_fs h5 e5
    obtain ⟨C1, c1, c2⟩ := C.cls c h2
    have : C1 = C0 := by
      have := c1.symm.trans h3
      injection this with this
      injection this
    subst this
    exact ⟨a, C1, dx, fs, w, rfl, h1, c2.cl, c2.na f hf, g2, k w H1 F1 θ1 R1 l1 p1 (RpV.of g3)⟩
  · rename_i n e3
    split at ev
    · rename_i c ns l e4
      obtain ⟨e5, rfl⟩ := Rs.of_eq ev
      have rd := R1.read r1 (by rw [e3]; rfl)
      rw [e3] at rd
      have rd' : Rp (MX D.cl X) F1 θ1 (.ob n) v := rd
      cases rd' with
      | ob hn =>
        obtain ⟨a', q1, q2, q3, zs, q4, q5⟩ := R1.m.ob n _ e4 (fun z => nomatch z)
        rw [hn] at q1
        cases q1
        obtain ⟨C0, dx, fs, rfl, h2, h3, h4, h5⟩ := q5
        subst h4
        obtain ⟨g1, w, g2, g3⟩ := getK_fs h5 e5
        obtain ⟨C1, c1, c2⟩ := C.cls c h2
        have : C1 = C0 := by
          have := c1.symm.trans h3
          injection this with this
          injection this
        subst this
        exact ⟨_, C1, dx, fs, w, rfl, q4, c2.cl, c2.na f hf, g2, k w H1 F1 θ1 R1 l1 p1 (RpV.of g3)⟩
    · cases ev
  · cases ev
/-- x or y, as a test: the truth of its value; a chain of ors is walked as one -/
theorem Snd.orV {a b : Ex} {x y : Expr} {r : List Expr} {pos : Pos} (h : PE X (.BoolOp .Or (x :: y :: r) pos) (RE gc cf (MX D.cl X) (.orV a b))) (ha : Snd D gc cf X a x) (hb1 : r = [] → Snd D gc cf X b y) (hb2 : r ≠ [] → Snd D gc cf X b (.BoolOp .Or (y :: r) pos)) : Snd D gc cf X (.orV a b) (.BoolOp .Or (x :: y :: r) pos) := by
  have no : ∀ {s : Sta} {c : Bool} {s' : Sta}, evX gc cf (.orV a b) true s = .ok (.bl c) s' → False := by
    intro s c s' e
    simp only [evX] at e
    cases e
  refine ⟨h, ⟨fun pins s0 σ H Q I hh => ?_⟩, fun _ => ⟨fun wh pins s0 σ H Q I hh => ?_⟩⟩
  · obtain ⟨F, G, θ, s, b0, s', R, ev, k⟩ := hh
    exact (no ev).elim
  · obtain ⟨F, G, θ, s, b0, s', R, ev, k⟩ := hh
    exact (no ev).elim
end
end Ev
/-! Soundness of expressions: slices, calls, built-ins. -/
namespace Ev
open PySem PySem.Spec L2
open PyProof.Rows hiding St
section
variable {D : Ds} {gc : Nat → Option Tr} {cf : CF} {X : Cx} {K : Mx} {F F' G H : Hp} {θ θ' : List Addr} {s : Sta} {σ : St}
noncomputable def evO (gc : Nat → Option Tr) (cf : CF) (lo : Ex) (s : Sta) : Rs (Option Int) := if isNul lo = true then .ok none s else asInt (evX gc cf lo false s)
noncomputable def RO (gc : Nat → Option Tr) (cf : CF) (K : Mx) (lo : Ex) : TO := fun σ H Q => ∃ F G θ s o s', Rel K F G θ s σ H ∧ evO gc cf lo s = .ok o s' ∧ ∀ H' F' θ', Rel K F' G θ' s' σ H' → FLe F F' → θ <+: θ' → Q o H'
theorem sPart {lo : Ex} {l : Option Expr} (h : match l with
      | none => isNul lo = true
      | some l => isNul lo = false ∧ PE X l (RE gc cf (MX D.cl X) lo)) : PO X l (RO gc cf (MX D.cl X) lo) := by
  refine ⟨fun pins s0 σ H Q I hh => ?_⟩
  obtain ⟨F, G, θ, s, o, s', R, ev, k⟩ := hh
  unfold evO at ev
  cases l with
  | none =>
    rw [if_pos h] at ev
    cases ev
    exact po_none.run pins s0 σ H Q I (k H F θ R (FLe.refl F) (List.prefix_refl _))
  | some l =>
    obtain ⟨h1, h2⟩ := h
    rw [if_neg (by rw [h1]; exact Bool.false_ne_true)] at ev
    cases e : evX gc cf lo false s with
    | no => rw [e] at ev; cases ev
    | ok t s1 =>
      rw [e] at ev
      cases t with
      | int i =>
        cases ev
        refine (po_some h2).run pins s0 σ H Q I ⟨F, G, θ, s, .int i, _, R, e, fun v H1 F1 θ1 R1 l1 p1 r1 => ?_⟩
        cases (show Rp _ _ _ _ _ from r1)
        exact ⟨i, rfl, k H1 F1 θ1 R1 l1 p1⟩
      | _ => cases ev
theorem sSl {a lo hi : Ex} {x : Expr} {l h : Option Expr} {p2 pos : Pos} (ha : PE X x (RE gc cf (MX D.cl X) a)) (hl : PO X l (RO gc cf (MX D.cl X) lo)) (hh : PO X h (RO gc cf (MX D.cl X) hi)) : Snd D gc cf X (.sl a lo hi) (.Subscript x (.Slice l h none p2) pos) := by
  refine Snd.mk1 ⟨fun pins s0 σ H Q I hh' => ?_⟩ rfl (fun _ => rfl) (fun s => by simp only [evX, fin])
  obtain ⟨F, G, θ, s, t, s', R, ev, k⟩ := hh'
  simp only [evX, fin] at ev
  obtain ⟨x1, s1, e1, ev⟩ := Rs.bind_eq ev
  obtain ⟨lo', s2, e2, ev⟩ := Rs.bind_eq ev
  obtain ⟨hi', s3, e3, ev⟩ := Rs.bind_eq ev
  obtain ⟨e4, rfl⟩ := Rs.of_eq ev
  refine (pe_slice (sl_tupA.or (sl_list.or sl_str)) ha hl hh).run pins s0 σ H Q I ⟨F, G, θ, s, x1, s1, R, e1, fun v H1 F1 θ1 R1 l1 p1 r1 => ⟨F1, G, θ1, s1, lo', s2, R1, e2, fun H2 F2 θ2 R2 l2 p2 => ⟨F2, G, θ2, s2, hi', _, R2, e3, fun H3 F3 θ3 R3 l3 p3 => ?_⟩⟩⟩
  exact slT_ok R3 e4 (R3.read (r1.mono (l2.trans l3) (p2.trans p3)) (slT_nb e4)) fun u H' F' R' l' r' => k u H' F' θ3 R' (l1.trans (l2.trans (l3.trans l'))) (p1.trans (p2.trans p3)) (RpV.of r')
theorem sCall {sc : Scope} (C : Cxt D gc cf X sc) {f : Nat} {es : List Ex} {xs : List Expr} {x : Str} {p pos : Pos} (hf : D.fns.lookup f = some x) (hg : Gl X x) (hk : okN x = true) (h : PA X xs (RA gc cf (MX D.cl X) es)) (hc : chks D X.N sc es xs = true) : Snd D gc cf X (.call f es) (.Call (.Name x p) xs [] pos) := by
  obtain ⟨k1, k2⟩ := okN_ok hk
  refine Snd.mk1 ⟨fun pins s0 σ H Q I hh => ?_⟩ rfl (fun _ => rfl) (fun s => by simp only [evX, fin])
  obtain ⟨F, G, θ, s, t, s', R, ev, k⟩ := hh
  simp only [evX, fin] at ev
  obtain ⟨ts, s1, e1, ev⟩ := Rs.bind_eq ev
  split at ev
  · rename_i hp
    split at ev
    · rename_i t' m e2
      cases ev
      obtain ⟨fa, fd, ps, kk, _, hm, kp, hb, hr, hF, hlen⟩ := C.fn f x hf ts s1.mem _ e2
      replace hb := hb.binds
      have rd : ∀ vs H1 F1 θ1, Rel (MX D.cl X) F1 G θ1 s1 σ H1 → FLe F F1 → θ <+: θ1 → RpVs (MX D.cl X) F1 θ1 σ ts vs → SpE (MX D.cl X) cf f ps.length (vs ++ []) H1 Q E0 := by
        intro vs H1 F1 θ1 R1 l1 p1 r1
        have r := r1.rps hp
        rw [List.append_nil]
        refine ⟨by rw [r.length, hlen], F1, ownG s1 σ G H1, θ1, ts, s1.mem, _, m, R1.out, r, e2, fun v H' F' θ' M l' p' rr => ?_⟩
        exact k v H' F' θ' (R1.back M l' p') (l1.trans l') (p1.trans p') (RpV.of rr)
      cases xs with
      | nil =>
        cases es with
        | cons _ _ => exact nomatch hc
        | nil =>
          simp only [evEs] at e1
          cases e1
          exact (pe_callG0 hF hr C.gd hg hm kp hb k1).run pins s0 σ H Q I (rd [] H F θ R (FLe.refl F) (List.prefix_refl _) .nil)
      | cons e es' =>
        cases es with
        | nil => exact nomatch hc
        | cons e0 es0 =>
          have hc' := hc
          simp only [chks] at hc'
          obtain ⟨h1, h2⟩ := and2 hc'
          obtain ⟨h1, h3⟩ := and2 h1
          exact (pe_callG hF hr C.gd hg hm kp hb h k1 (star_cons (by simpa using h1)) (chks_plain h2)).run pins s0 σ H Q I ⟨F, G, θ, s, ts, s1, R, e1, fun vs H1 F1 θ1 R1 l1 p1 r1 => rd vs H1 F1 θ1 R1 l1 p1 r1⟩
    · cases ev
  · cases ev
theorem chkK_facts {D : Ds} {N : List Str} {sc : Scope} {env : Env} {pos : Pos} : ∀ {es : List Ex} {ps : List Str} {kws : List Keyword}, chkK D N sc es ps kws = true →
    (backToKw pos (keywordEach kws env)).all (·.1.isSome) = true ∧ (backToKw pos (keywordEach kws env)).filterMap (·.1) = ps ∧ (backToKw pos (keywordEach kws env)).any (·.1.isNone) = false
  | [], ps, kws, h => by
    simp only [chkK] at h
    split at h
    · split at h
      · exact ⟨rfl, rfl, rfl⟩
      · cases h
    · cases h
  | e :: es, ps, kws, h => by
    cases ps with
    | nil => simp only [chkK] at h; cases h
    | cons p ps => cases kws with
      | nil => simp only [chkK] at h; cases h
      | cons kw kws =>
        obtain ⟨nm, x, kp⟩ := kw
        cases nm with
        | none => simp only [chkK] at h; cases h
        | some nm =>
        simp only [chkK] at h
        obtain ⟨h1, h2⟩ := and2 h
        obtain ⟨h1, h3⟩ := and2 h1
        obtain rfl := of_decide_eq_true h1
        obtain ⟨q1, q2, q3⟩ := chkK_facts (env := env) (pos := pos) h2
        refine ⟨?_, ?_, ?_⟩
        · show (true && (backToKw pos (keywordEach kws env)).all (·.1.isSome)) = true
          rw [q1]; rfl
        · show nm :: (backToKw pos (keywordEach kws env)).filterMap (·.1) = nm :: ps
          rw [q2]
        · show (false || (backToKw pos (keywordEach kws env)).any (·.1.isNone)) = false
          rw [q3]; rfl
theorem chkK_len {D : Ds} {N : List Str} {sc : Scope} : ∀ {es : List Ex} {ps : List Str} {kws : List Keyword}, chkK D N sc es ps kws = true → es.length = ps.length
  | [], ps, kws, h => by
    simp only [chkK] at h
    split at h
    · rfl
    · cases h
  | e :: es, ps, kws, h => by
    cases ps with
    | nil => simp only [chkK] at h; cases h
    | cons p ps => cases kws with
      | nil => simp only [chkK] at h; cases h
      | cons kw kws =>
        obtain ⟨nm, x, kp⟩ := kw
        cases nm with
        | none => simp only [chkK] at h; cases h
        | some nm =>
        simp only [chkK] at h
        rw [List.length_cons, List.length_cons, chkK_len (and2 h).2]
theorem run_fnGK {k : Nat} {f : Addr} {fd : FuncData} {ps : List Str} {sp : Sp} {pins : List (Addr × Obj)} {σ : L2.St} {H : Hp} {s : Shared} {Q : VK} {us ws : List Value} {vs zs : List V} (F : FnG X.prog X.w X.K X.mg X.base k f fd ps sp) (hr : Room k X.A) (hgd : X.A.guards = some []) (hb : KB X.K fd ps)
    (I : Inv X pins σ H s) (r : Vals vs us) (rz : Vals zs ws) (h : sp (vs ++ zs) H Q E0) : wpAny (model X.prog X.w) X.A (call (.ref f) us ((ps.drop us.length).zip ws)) (EP X pins σ Q) X.xe s := by
  have r2 := r.append rz
  have hl : (us ++ ws).length = ps.length := by rw [← r2.length]; exact F.len _ _ _ _ h
  refine wpAny_call (codeAny_mono (F.run X.A X.stack s H ⟨us, (ps.drop us.length).zip ws⟩ (us ++ ws) (vs ++ zs) Q E0 hr hgd I.env0 (hb s us ws I.kIn hl) r2 h) fun rr s' hq => ?_)
  cases rr with
  | error e => exact False.elim hq
  | ok fl =>
    cases fl with
    | ret u => exact I.after hq
    | _ => exact False.elim hq
theorem RpVs.append {K : Mx} {F : Hp} {θ : List Addr} {σ : L2.St} : ∀ {ts us : List Tr} {vs ws : List V}, RpVs K F θ σ ts vs → RpVs K F θ σ us ws → RpVs K F θ σ (ts ++ us) (vs ++ ws)
  | _, _, _, _, .nil, h => h
  | _, _, _, _, .cons a b, h => .cons a (RpVs.append b h)
theorem RpVs.len {K : Mx} {F : Hp} {θ : List Addr} {σ : L2.St} : ∀ {ts : List Tr} {vs : List V}, RpVs K F θ σ ts vs → vs.length = ts.length
  | _, _, .nil => rfl
  | _, _, .cons _ b => by rw [List.length_cons, List.length_cons, b.len]
theorem evEs_len : ∀ {es : List Ex} {s s' : Sta} {ts : List Tr}, evEs gc cf es s = .ok ts s' → ts.length = es.length
  | [], s, s', ts, h => by simp only [evEs] at h; cases h; rfl
  | e :: es, s, s', ts, h => by
    simp only [evEs] at h
    obtain ⟨t, s1, e1, h⟩ := Rs.bind_eq h
    obtain ⟨us, s2, e2, h⟩ := Rs.bind_eq h
    cases h
    rw [List.length_cons, List.length_cons, evEs_len e2]
theorem sCallK {sc : Scope} (C : Cxt D gc cf X sc) {f : Nat} {es ks : List Ex} {xs : List Expr} {kws : List Keyword} {x : Str} {p pos : Pos} {ps0 : List Str} (hf : D.fns.lookup f = some x) (hg : Gl X x) (hk : okN x = true) (h : PA X xs (RA gc cf (MX D.cl X) es)) (hc : chks D X.N sc es xs = true)
    (hp0 : D.pars.lookup f = some ps0) (hkk : PK X kws (RA gc cf (MX D.cl X) ks)) (hck : chkK D X.N sc ks (ps0.drop es.length) kws = true) : Snd D gc cf X (.callK f es ks) (.Call (.Name x p) xs kws pos) := by
  obtain ⟨k1, k2⟩ := okN_ok hk
  refine Snd.mk1 ⟨fun pins s0 σ H Q I hh => ?_⟩ rfl (fun _ => rfl) (fun s => by simp only [evX, fin])
  obtain ⟨F, G, θ, s, t, s', R, ev, k⟩ := hh
  simp only [evX, fin] at ev
  obtain ⟨ts, s1, e1, ev⟩ := Rs.bind_eq ev
  obtain ⟨us, s2, e2, ev⟩ := Rs.bind_eq ev
  split at ev
  · rename_i hp
    split at ev
    · rename_i t' m e3
      cases ev
      obtain ⟨fa, fd, ps, kk, hpar, hm, kp, hb, hr, hF, hlen⟩ := C.fn f x hf (ts ++ us) s2.mem _ e3
      rw [hp0] at hpar
      cases hpar
      obtain ⟨q1, q2, q3⟩ := chkK_facts (env := X.env) (pos := pos) hck
      have rd : ∀ vs H1 F1 θ1, Rel (MX D.cl X) F1 G θ1 s2 σ H1 → FLe F F1 → θ <+: θ1 → RpVs (MX D.cl X) F1 θ1 σ (ts ++ us) vs → SpE (MX D.cl X) cf f ps0.length vs H1 Q E0 := by
        intro vs H1 F1 θ1 R1 l1 p1 r1
        have r := r1.rps hp
        refine ⟨by rw [r.length, hlen], F1, ownG s2 σ G H1, θ1, _, s2.mem, _, m, R1.out, r, e3, fun v H' F' θ' M l' p' rr => ?_⟩
        exact k v H' F' θ' (R1.back M l' p') (l1.trans l') (p1.trans p') (RpV.of rr)
      have tl : ts.length = es.length := evEs_len e1
      refine wpAny_Call_Name_kw (ld_glob I hg hm ?_ k1)
      cases xs with
      | nil =>
        cases es with
        | cons _ _ => exact nomatch hc
        | nil =>
          simp only [evEs] at e1
          cases e1
          refine PySem.W.callWith_KW0 (h₀ := X.base) I.ok.mod.kin kp q1 (thn (hkk.run pos pins s0 σ H _ I ⟨F, G, θ, _, us, s2, R, e2, fun zs H2 F2 θ2 R2 l2 p2 r2 => (⟨F2, θ2, R2, l2, p2, r2⟩ : ∃ F2 θ2, Rel (MX D.cl X) F2 G θ2 s2 σ H2 ∧ FLe F F2 ∧ θ <+: θ2 ∧ RpVs (MX D.cl X) F2 θ2 σ us zs)⟩) fun ws s3 ⟨zs, H2, I2, rz, F2, θ2, R2, l2, p2, r2⟩ => ⟨I2.kIn, ?_⟩) (by show (false || _) = false; rw [q3]; rfl)
          rw [q2]
          exact run_fnGK (us := []) (vs := []) hF hr C.gd hb I2 .nil rz (rd _ H2 F2 θ2 R2 l2 p2 r2)
      | cons e es' =>
        cases es with
        | nil => exact nomatch hc
        | cons e0 es0 =>
          have hc' := hc
          simp only [chks] at hc'
          obtain ⟨h1, h2⟩ := and2 hc'
          obtain ⟨h1, h3⟩ := and2 h1
          have hst := star_cons (es := es') (env := X.env) (by simpa using h1)
          have hpl : ((backTo pos (starEach (e :: es') X.env)).any (·.1) || (backToKw pos (keywordEach kws X.env)).any (·.1.isNone)) = false := by
            rw [q3, chks_plain hc]; rfl
          refine PySem.W.callWith_KW (h₀ := X.base) I.ok.mod.kin kp q1 (thn (h.run pos pins s0 σ H _ I ⟨F, G, θ, s, ts, s1, R, e1, fun vs H1 F1 θ1 R1 l1 p1 r1 => (⟨F1, θ1, R1, l1, p1, r1⟩ : ∃ F1 θ1, Rel (MX D.cl X) F1 G θ1 s1 σ H1 ∧ FLe F F1 ∧ θ <+: θ1 ∧ RpVs (MX D.cl X) F1 θ1 σ ts vs)⟩) fun u1 s3 ⟨vs, H1, I1, r, F1, θ1, R1, l1, p1, r1⟩ => ?_) hpl hst
          refine thn (hkk.run pos pins s3 σ H1 _ I1 ⟨F1, G, θ1, s1, us, s2, R1, e2, fun zs H2 F2 θ2 R2 l2 p2 r2 => (⟨F2, θ2, R2, l2, p2, r2⟩ : ∃ F2 θ2, Rel (MX D.cl X) F2 G θ2 s2 σ H2 ∧ FLe F1 F2 ∧ θ1 <+: θ2 ∧ RpVs (MX D.cl X) F2 θ2 σ us zs)⟩) fun ws s4 ⟨zs, H2, I2, rz, F2, θ2, R2, l2, p2, r2⟩ => ⟨I2.kIn, ?_⟩
          have lu : u1.length = (e0 :: es0).length := by rw [← r.length, r1.len, tl]
          rw [q2, ← lu]
          exact run_fnGK hF hr C.gd hb I2 r rz (rd _ H2 F2 θ2 R2 (l1.trans l2) (p1.trans p2) ((r1.mono l2 p2).append r2))
    · cases ev
  · cases ev
theorem run_fnGP {k : Nat} {f : Addr} {fd : FuncData} {ps : List Str} {sp : Sp} {pins : List (Addr × Obj)} {σ : L2.St} {H : Hp} {s : Shared} {Q : VK} {us ws ws' : List Value} {vs zs : List V} {n : Nat} {qs : List Nat} {ns : List Str} (F : FnG X.prog X.w X.K X.mg X.base k f fd ps sp) (hr : Room k X.A) (hgd : X.A.guards = some []) (hb : KP X.K fd ps n qs ns)
    (I : Inv X pins σ H s) (r : Vals vs us) (rz : Vals zs ws') (hw : ws' = pick qs ws) (hn : us.length = n) (hn2 : ws.length = ns.length) (h : sp (vs ++ zs) H Q E0) : wpAny (model X.prog X.w) X.A (call (.ref f) us (ns.zip ws)) (EP X pins σ Q) X.xe s := by
  have r2 := r.append rz
  refine wpAny_call (codeAny_mono (F.run X.A X.stack s H ⟨us, ns.zip ws⟩ (us ++ ws') (vs ++ zs) Q E0 hr hgd I.env0 (by rw [hw]; exact hb s us ws I.kIn hn hn2) r2 h) fun rr s' hq => ?_)
  cases rr with
  | error e => exact False.elim hq
  | ok fl =>
    cases fl with
    | ret u => exact I.after hq
    | _ => exact False.elim hq
theorem rv_get {K : Mx} {F : Hp} {θ : List Addr} {σ : L2.St} : ∀ {ts : List Tr} {vs : List V} {us : List Value}, RpVs K F θ σ ts vs → Vals vs us → ∀ i : Nat, (∃ (t : Tr) (v : V) (u : Value), ts[i]? = some t ∧ vs[i]? = some v ∧ us[i]? = some u ∧ RpV K F θ σ t v ∧ RelV v u) ∨ (ts[i]? = none ∧ vs[i]? = none ∧ us[i]? = none)
  | _, _, _, .nil, .nil, i => .inr ⟨by simp, by simp, by simp⟩
  | _, _, _, .cons a b, .cons c d, 0 => .inl ⟨_, _, _, rfl, rfl, rfl, a, c⟩
  | _, _, _, .cons a b, .cons c d, i + 1 => by
    rcases rv_get b d i with h | h
    · exact .inl (by simpa using h)
    · exact .inr (by simpa using h)
theorem pick_rel {K : Mx} {F : Hp} {θ : List Addr} {σ : L2.St} {ts : List Tr} {vs : List V} {us : List Value} (r : RpVs K F θ σ ts vs) (v : Vals vs us) : ∀ qs : List Nat, RpVs K F θ σ (pick qs ts) (pick qs vs) ∧ Vals (pick qs vs) (pick qs us)
  | [] => ⟨.nil, .nil⟩
  | q :: qs => by
    obtain ⟨a, b⟩ := pick_rel r v qs
    rcases rv_get r v q with ⟨t, x, u, e1, e2, e3, p1, p2⟩ | ⟨e1, e2, e3⟩
    · have z : ∀ {α : Type} {l : List α} {y : α}, l[q]? = some y → pick (q :: qs) l = y :: pick qs l := fun h => by simp [pick, List.filterMap_cons, h]
      rw [z e1, z e2, z e3]
      exact ⟨.cons p1 a, .cons p2 b⟩
    · have z : ∀ {α : Type} {l : List α}, l[q]? = none → pick (q :: qs) l = pick qs l := fun h => by simp [pick, List.filterMap_cons, h]
      rw [z e1, z e2, z e3]
      exact ⟨a, b⟩
theorem pick_all {ts : List Tr} (h : ts.all Tr.pure = true) (qs : List Nat) : (pick qs ts).all Tr.pure = true := by
  rw [List.all_eq_true] at h ⊢
  intro x hx
  obtain ⟨i, _, hi⟩ := List.mem_filterMap.mp hx
  exact h x (List.mem_of_getElem? hi)
theorem sCallP {sc : Scope} (C : Cxt D gc cf X sc) {f : Nat} {es ks : List Ex} {xs : List Expr} {kws : List Keyword} {x : Str} {p pos : Pos} {qs : List Nat} {ns : List Str} (hf : D.fns.lookup f = some x) (hg : Gl X x) (hk : okN x = true) (h : PA X xs (RA gc cf (MX D.cl X) es)) (hc : chks D X.N sc es xs = true)
    (hp0 : D.prms.lookup f = some (es.length, qs, ns)) (hkk : PK X kws (RA gc cf (MX D.cl X) ks)) (hck : chkK D X.N sc ks ns kws = true) : Snd D gc cf X (.callP f es ks qs) (.Call (.Name x p) xs kws pos) := by
  obtain ⟨k1, k2⟩ := okN_ok hk
  refine Snd.mk1 ⟨fun pins s0 σ H Q I hh => ?_⟩ rfl (fun _ => rfl) (fun s => by simp only [evX, fin])
  obtain ⟨F, G, θ, s, t, s', R, ev, k⟩ := hh
  simp only [evX, fin] at ev
  obtain ⟨ts, s1, e1, ev⟩ := Rs.bind_eq ev
  obtain ⟨us, s2, e2, ev⟩ := Rs.bind_eq ev
  split at ev
  · rename_i hp
    split at ev
    · rename_i t' m e3
      cases ev
      obtain ⟨fa, fd, ps, kk, hpar, hm, kp, hb, hr, hF, hlen⟩ := C.fnP f x _ _ _ hf hp0 (ts ++ pick qs us) s2.mem _ e3
      obtain ⟨q1, q2, q3⟩ := chkK_facts (env := X.env) (pos := pos) hck
      have hp' : (ts ++ pick qs us).all Tr.pure = true := by
        rw [List.all_append, Bool.and_eq_true] at hp ⊢
        exact ⟨hp.1, pick_all hp.2 qs⟩
      have rd : ∀ vs H1 F1 θ1, Rel (MX D.cl X) F1 G θ1 s2 σ H1 → FLe F F1 → θ <+: θ1 → RpVs (MX D.cl X) F1 θ1 σ (ts ++ pick qs us) vs → SpE (MX D.cl X) cf f ps.length vs H1 Q E0 := by
        intro vs H1 F1 θ1 R1 l1 p1 r1
        have r := r1.rps hp'
        refine ⟨by rw [r.length, hlen], F1, ownG s2 σ G H1, θ1, _, s2.mem, _, m, R1.out, r, e3, fun v H' F' θ' M l' p' rr => ?_⟩
        exact k v H' F' θ' (R1.back M l' p') (l1.trans l') (p1.trans p') (RpV.of rr)
      have tl : ts.length = es.length := evEs_len e1
      have ul : us.length = ks.length := evEs_len e2
      have nl : ks.length = ns.length := chkK_len hck
      refine wpAny_Call_Name_kw (ld_glob I hg hm ?_ k1)
      cases xs with
      | nil =>
        cases es with
        | cons _ _ => exact nomatch hc
        | nil =>
          simp only [evEs] at e1
          cases e1
          refine PySem.W.callWith_KW0 (h₀ := X.base) I.ok.mod.kin kp q1 (thn (hkk.run pos pins s0 σ H _ I ⟨F, G, θ, _, us, s2, R, e2, fun zs H2 F2 θ2 R2 l2 p2 r2 => (⟨F2, θ2, R2, l2, p2, r2⟩ : ∃ F2 θ2, Rel (MX D.cl X) F2 G θ2 s2 σ H2 ∧ FLe F F2 ∧ θ <+: θ2 ∧ RpVs (MX D.cl X) F2 θ2 σ us zs)⟩) fun ws s3 ⟨zs, H2, I2, rz, F2, θ2, R2, l2, p2, r2⟩ => ⟨I2.kIn, ?_⟩) (by show (false || _) = false; rw [q3]; rfl)
          rw [q2]
          obtain ⟨g1, g2⟩ := pick_rel r2 rz qs
          exact run_fnGP (us := []) (vs := []) hF hr C.gd hb I2 .nil g2 rfl rfl (by rw [← rz.length, r2.len, ul, nl]) (rd _ H2 F2 θ2 R2 l2 p2 g1)
      | cons e es' =>
        cases es with
        | nil => exact nomatch hc
        | cons e0 es0 =>
          have hc' := hc
          simp only [chks] at hc'
          obtain ⟨h1, h2⟩ := and2 hc'
          obtain ⟨h1, h3⟩ := and2 h1
          have hst := star_cons (es := es') (env := X.env) (by simpa using h1)
          have hpl : ((backTo pos (starEach (e :: es') X.env)).any (·.1) || (backToKw pos (keywordEach kws X.env)).any (·.1.isNone)) = false := by
            rw [q3, chks_plain hc]; rfl
          refine PySem.W.callWith_KW (h₀ := X.base) I.ok.mod.kin kp q1 (thn (h.run pos pins s0 σ H _ I ⟨F, G, θ, s, ts, s1, R, e1, fun vs H1 F1 θ1 R1 l1 p1 r1 => (⟨F1, θ1, R1, l1, p1, r1⟩ : ∃ F1 θ1, Rel (MX D.cl X) F1 G θ1 s1 σ H1 ∧ FLe F F1 ∧ θ <+: θ1 ∧ RpVs (MX D.cl X) F1 θ1 σ ts vs)⟩) fun u1 s3 ⟨vs, H1, I1, r, F1, θ1, R1, l1, p1, r1⟩ => ?_) hpl hst
          refine thn (hkk.run pos pins s3 σ H1 _ I1 ⟨F1, G, θ1, s1, us, s2, R1, e2, fun zs H2 F2 θ2 R2 l2 p2 r2 => (⟨F2, θ2, R2, l2, p2, r2⟩ : ∃ F2 θ2, Rel (MX D.cl X) F2 G θ2 s2 σ H2 ∧ FLe F1 F2 ∧ θ1 <+: θ2 ∧ RpVs (MX D.cl X) F2 θ2 σ us zs)⟩) fun ws s4 ⟨zs, H2, I2, rz, F2, θ2, R2, l2, p2, r2⟩ => ⟨I2.kIn, ?_⟩
          have lu : u1.length = (e0 :: es0).length := by rw [← r.length, r1.len, tl]
          rw [q2]
          obtain ⟨g1, g2⟩ := pick_rel r2 rz qs
          exact run_fnGP hF hr C.gd hb I2 r g2 rfl lu (by rw [← rz.length, r2.len, ul, nl]) (rd _ H2 F2 θ2 R2 (l1.trans l2) (p1.trans p2) ((r1.mono l2 p2).append g1))
    · cases ev
  · cases ev
theorem biT_nil {b : Bi} : biT b [] = none := by cases b <;> rfl
theorem sBiF {sc : Scope} (C : Cxt D gc cf X sc) {b : Bi} {es : List Ex} {xs : List Expr} {p pos : Pos} {id : String} (hid : b.fnId = some id) (hg : Gl X b.nm) (hm : X.mg b.nm = none) (h : PA X xs (RA gc cf (MX D.cl X) es)) (hc : chks D X.N sc es xs = true) : Snd D gc cf X (.bi b es) (.Call (.Name b.nm p) xs [] pos) := by
  refine Snd.mk1 ⟨fun pins s0 σ H Q I hh => ?_⟩ rfl (fun _ => rfl) (fun s => by simp only [evX, fin])
  obtain ⟨F, G, θ, s, t, s', R, ev, k⟩ := hh
  simp only [evX, fin] at ev
  obtain ⟨ts, s1, e1, ev⟩ := Rs.bind_eq ev
  split at ev
  · rename_i hp
    obtain ⟨e2, rfl⟩ := Rs.of_eq ev
    cases es with
    | nil => simp only [evEs] at e1; cases e1; rw [List.map_nil, biT_nil] at e2; cases e2
    | cons e0 es0 =>
      cases xs with
      | nil => exact nomatch hc
      | cons x0 xs0 =>
        have hc' := hc
        simp only [chks] at hc'
        obtain ⟨h1, h2⟩ := and2 hc'
        obtain ⟨h1, h3⟩ := and2 h1
        refine (pe_callB (biT_fn (cl := D.cl) C.calm C.gd C.un hid e2) hg hm (fn_boot hid) h (nm_ne b) (nm_db b) (star_cons (by simpa using h1)) (chks_plain h2)).run pins s0 σ H Q I ⟨F, G, θ, s, ts, _, R, e1, fun vs H1 F1 θ1 R1 l1 p1 r1 => ?_⟩
        exact ⟨F1, G, θ1, _, σ, R1, R1.reads r1 hp, fun u H' F' R' l' r' => k u H' F' θ1 R' (l1.trans l') p1 (RpV.of r')⟩
  · cases ev
theorem sBiT {sc : Scope} {b : Bi} {es : List Ex} {xs : List Expr} {p pos : Pos} {id : String} (hid : b.tyId = some id) (hg : Gl X b.nm) (hm : X.mg b.nm = none) (h : PA X xs (RA gc cf (MX D.cl X) es)) (hc : chks D X.N sc es xs = true) : Snd D gc cf X (.bi b es) (.Call (.Name b.nm p) xs [] pos) := by
  refine Snd.mk1 ⟨fun pins s0 σ H Q I hh => ?_⟩ rfl (fun _ => rfl) (fun s => by simp only [evX, fin])
  obtain ⟨F, G, θ, s, t, s', R, ev, k⟩ := hh
  simp only [evX, fin] at ev
  obtain ⟨ts, s1, e1, ev⟩ := Rs.bind_eq ev
  split at ev
  · rename_i hp
    obtain ⟨e2, rfl⟩ := Rs.of_eq ev
    cases es with
    | nil => simp only [evEs] at e1; cases e1; rw [List.map_nil, biT_nil] at e2; cases e2
    | cons e0 es0 =>
      cases xs with
      | nil => exact nomatch hc
      | cons x0 xs0 =>
        have hc' := hc
        simp only [chks] at hc'
        obtain ⟨h1, h2⟩ := and2 hc'
        obtain ⟨h1, h3⟩ := and2 h1
        refine (pe_callTy (biT_ty (cl := D.cl) hid e2) hg hm (ty_boot hid) h (nm_ne b) (nm_db b) (star_cons (by simpa using h1)) (chks_plain h2)).run pins s0 σ H Q I ⟨F, G, θ, s, ts, _, R, e1, fun vs H1 F1 θ1 R1 l1 p1 r1 => ?_⟩
        exact ⟨F1, G, θ1, _, σ, R1, R1.reads r1 hp, fun u H' F' R' l' r' => k u H' F' θ1 R' (l1.trans l') p1 (RpV.of r')⟩
  · cases ev
theorem boot_tys : bootBuiltins "int" = some (.type "int") ∧ bootBuiltins "bool" = some (.type "bool") ∧ bootBuiltins "str" = some (.type "str") ∧ bootBuiltins "tuple" = some (.type "tuple") := ⟨by decide +kernel, by decide +kernel, by decide +kernel, by decide +kernel⟩
theorem sBiI {sc : Scope} (C : Cxt D gc cf X sc) {b : Bi} {es : List Ex} {z : Expr} {y : Str} {p q pos : Pos} {id : String} (hid : b.isTy = some id) (hg : Gl X b.nm) (hm : X.mg b.nm = none) (hy : Gl X y) (hmy : X.mg y = none) (hby : bootBuiltins y = some (.type id)) (hny : y ≠ "__name__") (hdy : (y == ("__debug__" : Str)) = false)
    (h : PA X [z] (RA gc cf (MX D.cl X) es)) (hp1 : ∀ e, es = [e] → PE X z (RE gc cf (MX D.cl X) e)) (hc : chks D X.N sc es [z] = true) : Snd D gc cf X (.bi b es) (.Call (.Name b.nm p) [z, .Name y q] [] pos) := by
  refine Snd.mk1 ⟨fun pins s0 σ H Q I hh => ?_⟩ rfl (fun _ => rfl) (fun s => by simp only [evX, fin])
  obtain ⟨F, G, θ, s, t, s', R, ev, k⟩ := hh
  simp only [evX, fin] at ev
  obtain ⟨ts, s1, e1, ev⟩ := Rs.bind_eq ev
  split at ev
  · rename_i hp
    obtain ⟨e2, rfl⟩ := Rs.of_eq ev
    cases es with
    | nil => exact nomatch hc
    | cons e0 es0 =>
      simp only [chks] at hc
      obtain ⟨h1, h2⟩ := and2 hc
      obtain ⟨h1, h3⟩ := and2 h1
      cases es0 with
      | cons _ _ => exact nomatch h2
      | nil =>
        have hst := star_cons (es := [.Name y q]) (env := X.env) (e := z) (by simpa using h1)
        simp only [evEs] at e1
        obtain ⟨t0, s2, e3, e4⟩ := Rs.bind_eq e1
        cases e4
        have nb : b.nm = "isinstance" := by cases b <;> first | rfl | cases hid
        have bt : bootBuiltins b.nm = some (.builtin "isinstance") := by rw [nb]; decide +kernel
        refine (pe_callB (biT_is (cl := D.cl) hid e2) hg hm bt (pa_cons (hp1 e0 rfl) (pa_cons (pe_bltn (v := .ty id) hy hmy hby (show RelV (.ty id) (.type id) from rfl) hny hdy) pa_nil (by rfl)) hst) (nm_ne b) (nm_db b) hst (by rfl)).run pins s0 σ H Q I ⟨F, G, θ, s, t0, _, R, e3, fun v H1 F1 θ1 R1 l1 p1 r1 => ?_⟩
        exact ⟨v, rfl, F1, G, θ1, _, σ, R1, R1.reads (.cons r1 .nil) hp, fun u H' F' R' l' r' => k u H' F' θ1 R' (l1.trans l') p1 (RpV.of r')⟩
  · cases ev
theorem listRg_eq {x t : Tr} (h : biT .listRg [x] = some t) : ∃ n, x = .int n ∧ (0 ≤ n ∧ n ≤ 16777216) ∧ t = .lst (rgT 0 n) := by
  cases x with
  | int n =>
    simp only [biT] at h
    split at h
    · rename_i hb
      cases h
      obtain ⟨q1, q2⟩ := and2 hb
      have q1 := of_decide_eq_true q1
      have q2 := Nat.le_of_ble_eq_true q2
      exact ⟨n, rfl, ⟨q1, by omega⟩, rfl⟩
    · cases h
  | _ => exact nomatch h
theorem map_rps {α : Type} {f : α → Tr} {g : α → V} (h : ∀ a, Rp K F θ (f a) (g a)) : ∀ l : List α, Rps K F θ (l.map f) (l.map g)
  | [] => .nil
  | a :: l => .cons (h a) (map_rps h l)
theorem rgT_rps (a b : Int) : Rps K F θ (rgT a b) (rgV a b) := map_rps (fun _ => .int _) _
theorem sListRg {sc : Scope} (C : Cxt D gc cf X sc) {es : List Ex} {y0 : Expr} {p q pos pos2 : Pos} (hg : Gl X "list") (hm : X.mg "list" = none) (hg2 : Gl X "range") (hm2 : X.mg "range" = none) (hp1 : ∀ e, es = [e] → PE X y0 (RE gc cf (MX D.cl X) e)) (hc : chks D X.N sc es [y0] = true) :
    Snd D gc cf X (.bi .listRg es) (.Call (.Name "list" p) [.Call (.Name "range" q) [y0] [] pos2] [] pos) := by
  refine Snd.mk1 ⟨fun pins s0 σ H Q I hh => ?_⟩ rfl (fun _ => rfl) (fun s => by simp only [evX, fin])
  obtain ⟨F, G, θ, s, t, s', R, ev, k⟩ := hh
  simp only [evX, fin] at ev
  obtain ⟨ts, s1, e1, ev⟩ := Rs.bind_eq ev
  split at ev
  · rename_i hp
    obtain ⟨e2, rfl⟩ := Rs.of_eq ev
    cases es with
    | nil => exact nomatch hc
    | cons e0 es0 =>
      simp only [chks] at hc
      obtain ⟨h1, h2⟩ := and2 hc
      obtain ⟨h1, h3⟩ := and2 h1
      cases es0 with
      | cons _ _ => exact nomatch h2
      | nil =>
        have hst := star_cons (es := []) (env := X.env) (e := y0) (by simpa using h1)
        simp only [evEs] at e1
        obtain ⟨t0, s2, e3, e4⟩ := Rs.bind_eq e1
        cases e4
        refine (pe_listRg C.calm hg hm (prg_1 hg2 hm2 (hp1 e0 rfl) hst)).run pins s0 σ H Q I ⟨F, G, θ, s, t0, _, R, e3, fun v H1 F1 θ1 R1 l1 p1 r1 => ?_⟩
        simp only [List.map_cons, List.map_nil] at e2 hp
        have rr := R1.read r1 (by simpa using hp)
        obtain ⟨n, e5, e6, rfl⟩ := listRg_eq e2
        rw [e5] at rr
        cases intH rr
        exact ⟨n, rfl, RgOk.of_le (Int.le_refl 0) e6.2 (by decide) e6.1, fun l hl => Fin.lst (fun u H' F' R' l' r' => k u H' F' θ1 R' (l1.trans l') p1 (RpV.of r')) R1 hl (rgT_rps 0 n)⟩
  · cases ev
theorem last_rps {l : List Tr} {xs : List V} {t : Tr} (r : Rps K F θ l xs) (h : l.getLast? = some t) : ∃ v, xs[xs.length - 1]? = some v ∧ Rp K F θ t v := by
  rw [List.getLast?_eq_getElem?] at h
  obtain ⟨v, e, q⟩ := r.get h
  exact ⟨v, by rw [r.length]; exact e, q⟩
theorem sPop {i : Nat} {x : Str} {ap p2 pos : Pos} (hN : X.N[i]? = some x) (hv : Vis X.env.scope x) (hk : okN x = true) (hl : (ap.endLine == pos.line) = true) : Snd D gc cf X (.pop i) (.Call (.Attribute (.Name x p2) "pop" ap) [] [] pos) := by
  obtain ⟨k1, k2⟩ := okN_ok hk
  refine Snd.mk1 ⟨fun pins s0 σ H Q I hh => ?_⟩ rfl (fun _ => rfl) (fun s => by simp only [evX, fin])
  obtain ⟨F, G, θ, s, t, s', R, ev, k⟩ := hh
  simp only [evX, fin] at ev
  split at ev
  · rename_i l e
    split at ev
    · rename_i t' e2
      cases ev
      obtain ⟨a, o, e1, h, f, g, tt, xs, rfl, q⟩ := R.slot i _ e
      obtain ⟨v, e3, r⟩ := last_rps q e2
      refine (pe_bm0 PySem.F.plainAttrs_list PySem.F.slot_list_pop PySem.F.type_list_pop mt_pop (pe_var (i := i) hN hv k1 k2) (by rfl) hl).run pins s0 σ H Q I ⟨_, e1, .inl ⟨rfl, _, SqL.of h⟩, a, xs, v, rfl, rfl, h, e3, ?_⟩
      exact k v _ F θ (R.ownUpd (l' := .lst l.dropLast) e e1 ⟨_, rfl, q.dropLast⟩) (FLe.refl F) (List.prefix_refl _) (RpV.of r)
    · cases ev
  · cases ev
theorem few1 {z : Expr} {env : Env} {cp : Pos} (hst : isStar z = false) : ((backTo cp (starEach [z] env)).all (fun x => !x.1) && (backToKw cp (keywordEach [] env)).all (fun x => x.1.isSome) && decide ([z].length + ([] : List Keyword).length + (if ([] : List Keyword).isEmpty then 0 else 1) < 30)) = true := by
  rw [star_cons hst]
  rfl
theorem sPopAt {sc : Scope} (C : Cxt D gc cf X sc) {i : Nat} {e : Ex} {x : Str} {ap p2 pos : Pos} {z : Expr} (hN : X.N[i]? = some x) (hv : Vis X.env.scope x) (hk : okN x = true) (hl : (ap.endLine == pos.line) = true) (hst : isStar z = false) (he : PE X z (RE gc cf (MX D.cl X) e)) : Snd D gc cf X (.popAt i e) (.Call (.Attribute (.Name x p2) "pop" ap) [z] [] pos) := by
  obtain ⟨k1, k2⟩ := okN_ok hk
  refine Snd.mk1 ⟨fun pins s0 σ H Q I hh => ?_⟩ rfl (fun _ => rfl) (fun s => by simp only [evX, fin])
  obtain ⟨F, G, θ, s, t, s', R, ev, k⟩ := hh
  simp only [evX, fin] at ev
  split at ev
  · rename_i l0 en
    obtain ⟨t1, s1, e1, ev⟩ := Rs.bind_eq ev
    obtain ⟨a, o, ea, ha, _, _, _, xs0, rfl, q0⟩ := R.slot i _ en
    split at ev
    · rename_i l kk en1
      split at ev
      · rename_i j ej
        split at ev
        · rename_i hz
          obtain ⟨e2, rfl⟩ := Rs.of_eq ev
          refine (pe_bm PySem.F.plainAttrs_list PySem.F.slot_list_pop PySem.F.type_list_pop mt_popAt (pe_var (i := i) hN hv k1 k2) (pa_cons he pa_nil (star_cons hst)) (by rfl) (few1 hst) hl (star_cons hst) (by rfl)).run pins s0 σ H Q I ⟨_, ea, .inl ⟨rfl, _, SqL.of ha⟩, F, G, θ, s, _, s1, R, e1, fun v H1 F1 θ1 R1 l1 p1 r1 => ?_⟩
          cases (show Rp _ _ _ _ _ from r1)
          obtain ⟨o1, hx, f, g, tt, xs, rfl, q⟩ := R1.ownAt en1 ea
          obtain ⟨g1, g2, g3, g4⟩ := ixN_seq ej
          have hn := line63
          rw [← q.length] at g1 g2 g3 g4 hz
          obtain ⟨v, ev2, rv⟩ := q.get e2
          refine ⟨a, xs, kk, j, v, rfl, rfl, hx, by omega, by omega, g1, ev2, ?_⟩
          exact k v _ F1 θ1 (R1.ownUpd (l' := .lst (l.eraseIdx j)) en1 ea ⟨_, rfl, q.eraseIdx j⟩) l1 p1 (RpV.of rv)
        · cases ev
      · cases ev
    · cases ev
  · cases ev
theorem sIsC {sc : Scope} (C : Cxt D gc cf X sc) {c : Str} {a : Ex} {z : Expr} {p q pos : Pos} (hc : c ∈ D.cl) (hg : Gl X "isinstance") (hm : X.mg "isinstance" = none) (hy : Gl X c) (hk : okN c = true) (hst : isStar z = false) (ha : PE X z (RE gc cf (MX D.cl X) a)) : Snd D gc cf X (.isC c a) (.Call (.Name "isinstance" p) [z, .Name c q] [] pos) := by
  obtain ⟨k1, k2⟩ := okN_ok hk
  refine Snd.mk1 ⟨fun pins s0 σ H Q I hh => ?_⟩ rfl (fun _ => rfl) (fun s => by simp only [evX, fin])
  obtain ⟨F, G, θ, s, t, s', R, ev, k⟩ := hh
  simp only [evX, fin] at ev
  obtain ⟨x1, s1, e1, ev⟩ := Rs.bind_eq ev
  obtain ⟨e2, rfl⟩ := Rs.of_eq ev
  obtain ⟨C0, c1, c2⟩ := C.cls c hc
  have hst2 := star_cons (es := [.Name c q]) (env := X.env) (e := z) hst
  refine (pe_callB (call_isi (X := X)) hg hm (by decide +kernel) (pa_cons ha (pa_cons (pe_glob (v := .ref C0) hy c1 (show RelV (.ref C0) (.ref C0) from rfl) k1) pa_nil (by rfl)) hst2) (by decide +kernel) (by decide +kernel) hst2 (by rfl)).run pins s0 σ H Q I ⟨F, G, θ, s, x1, _, R, e1, fun v H1 F1 θ1 R1 l1 p1 r1 => ?_⟩
  have hp : (s1.deref x1).pure = true := by
    cases e3 : s1.deref x1 <;> first | rfl | (rw [e3] at e2; cases e2)
  have rd := R1.read r1 hp
  have go : ∀ (T : Value) (bb : Bool), TyX X.K H1 v T → PySem.W.kitOne X.K T (.ref C0) = some bb → t = .bl bb → rIsi X.K [v, .ref C0] H1 Q := fun T bb h1 h2 h3 => by
    subst h3
    exact ⟨v, .ref C0, T, .ref C0, bb, rfl, .own C0, h1, h2, k _ H1 F1 θ1 R1 l1 p1 (RpV.of (.bl bb))⟩
  have kit : ∀ T ∈ (["NoneType", "bool", "int", "str", "list", "tuple", "dict"] : List String), PySem.W.kitOne X.K (.type T) (.ref C0) = some false := c2.kit
  have ty : ∀ {a : Addr} {xs : List V}, SqT X.K H1 a xs → TyX X.K H1 (.ref a) (.type "tuple") := by
    intro a xs q
    rcases q with (q | ⟨o, q⟩) | ⟨o, its, n, q, c, _⟩
    · exact .base (.tup q)
    · exact .fTuple q
    · exact .kTuple q c
  have hF := R1.m.fle
  cases e3 : s1.deref x1 with
  | non => rw [e3] at e2 rd; cases e2; cases nonH rd; exact go _ _ (.base .non) (kit _ (by simp)) rfl
  | bl y => rw [e3] at e2 rd; cases e2; cases blH rd; exact go _ _ (.base (.bl _)) (kit _ (by simp)) rfl
  | int y => rw [e3] at e2 rd; cases e2; cases intH rd; exact go _ _ (.base (.int _)) (kit _ (by simp)) rfl
  | str y => rw [e3] at e2 rd; cases e2; cases strH rd; exact go _ _ (.base (.str _)) (kit _ (by simp)) rfl
  | tup y => rw [e3] at e2 rd; cases e2; obtain ⟨a, xs, rfl, q, r, _⟩ := tupH rd hF; exact go _ _ (ty q) (kit _ (by simp)) rfl
  | lst y => rw [e3] at e2 rd; cases e2; obtain ⟨a, xs, rfl, q, r⟩ := rd; exact go _ _ (.base (.lst q)) (kit _ (by simp)) rfl
  | dk y z => rw [e3] at e2 rd; cases e2; obtain ⟨a, kvs, rfl, e, _⟩ := rd; exact go _ _ (.base (.dK e)) (kit _ (by simp)) rfl
  | flst y => rw [e3] at e2; cases e2
  | dt y z => rw [e3] at e2; cases e2
  | dn y z => rw [e3] at e2; cases e2
  | ins c' ns l =>
    rw [e3] at e2 rd
    cases e2
    obtain ⟨a, C1, dx, fs, rfl, h1, h2, h3, h4, h5⟩ := rd
    obtain ⟨C2, d1, d2⟩ := C.cls c' h2
    have e9 : C2 = C1 := by
      have := d1.symm.trans h3
      injection this with this
      injection this
    subst e9
    exact go _ _ (.base (.ins h1 d2.cl d2.ha d2.hn d2.htk d2.hm)) (C.kit2 c hc c' h2 C0 C2 c1 d1) rfl
  | ob y => rw [e3] at e2; cases e2
  | bor y => rw [e3] at e2; cases e2
theorem sMake {sc : Scope} (C : Cxt D gc cf X sc) {f : Nat} {es : List Ex} {xs : List Expr} {x : Str} {p pos : Pos} (hf : D.mks.lookup f = some x) (hg : Gl X x) (hk : okN x = true) (h : PA X xs (RA gc cf (MX D.cl X) es)) (hc : chks D X.N sc es xs = true) : Snd D gc cf X (.make f es) (.Call (.Name x p) xs [] pos) := by
  obtain ⟨k1, k2⟩ := okN_ok hk
  refine Snd.mk1 ⟨fun pins s0 σ H Q I hh => ?_⟩ rfl (fun _ => rfl) (fun s => by simp only [evX, fin])
  obtain ⟨F, G, θ, s, t, s', R, ev, k⟩ := hh
  simp only [evX, fin] at ev
  obtain ⟨ts, s1, e1, ev⟩ := Rs.bind_eq ev
  split at ev
  · rename_i hp
    split at ev
    · rename_i t' m e2
      cases ev
      obtain ⟨C0, fa, fd, ps, kk, hcl, hm, hM, hb, hr, hF, hlen⟩ := C.mkF f x hf ts s1.mem _ e2
      replace hb := hb.binds
      cases xs with
      | nil =>
        cases es with
        | cons _ _ => exact nomatch hc
        | nil =>
          simp only [evEs] at e1
          cases e1
          refine wpAny_Call_Name_kw (ld_glob I hg hm ?_ k1)
          refine PySem.W.callWith_K0 I.kIn hM.kp (run_makeG (us := []) hM hF hr C.gd hb I .nil fun xa dx nx nd ne => ?_)
          have RJ := (R.junk (o := .own xa) nd).junk (p := xa) (o := .ins C0 dx []) (by rw [upd_ne (Ne.symm ne)]; exact nx)
          refine ⟨by simpa using hlen, F, ownG s σ G _, θ, [], s.mem, _, m, xa, [], C0, dx, rfl, hcl, hm, upd_same, R.m.fle.none nx, ?_, R.m.noTh nx, RJ.out, .nil, e2, fun H' F' θ' M l' p' rr => ⟨rfl, ?_⟩⟩
          · cases eo : ownG s σ G (upd (upd H dx (.own xa)) xa (.ins C0 dx [])) xa with
            | none => rfl
            | some o =>
              have := RJ.out.gle xa o eo
              have h9 : ¬ ∃ (i : Nat) (l : Ob), s.env[i]? = some (Slot.own l) ∧ σ[i]? = some (some (V.ref xa)) := by
                rintro ⟨i, l, q1, q2⟩
                obtain ⟨zs, q, _⟩ := R.ownAt q1 q2
                rw [nx] at q
                cases q
              rw [ownG_not h9] at eo
              have := R.m.gle xa o eo
              rw [nx] at this
              cases this
          · exact k _ H' F' θ' (RJ.back M l' p') l' p' (RpV.of rr)
      | cons e es' =>
        cases es with
        | nil => exact nomatch hc
        | cons e0 es0 =>
          have hc' := hc
          simp only [chks] at hc'
          obtain ⟨h1, h2⟩ := and2 hc'
          obtain ⟨h1, h3⟩ := and2 h1
          refine (pe_makeG hM hF hr C.gd hg hm hb h k1 (star_cons (by simpa using h1)) (chks_plain h2)).run pins s0 σ H Q I ⟨F, G, θ, s, ts, s1, R, e1, fun vs H1 F1 θ1 R1 l1 p1 r1 => fun xa dx nx nd ne => ?_⟩
          have r := r1.rps hp
          have RJ := (R1.junk (o := .own xa) nd).junk (p := xa) (o := .ins C0 dx []) (by rw [upd_ne (Ne.symm ne)]; exact nx)
          refine ⟨by rw [List.length_cons, r.length, hlen], F1, ownG s1 σ G _, θ1, ts, s1.mem, _, m, xa, vs, C0, dx, rfl, hcl, hm, upd_same, R1.m.fle.none nx, ?_, R1.m.noTh nx, RJ.out, r, e2, fun H' F' θ' M l' p' rr => ⟨rfl, ?_⟩⟩
          · cases eo : ownG s1 σ G (upd (upd H1 dx (.own xa)) xa (.ins C0 dx [])) xa with
            | none => rfl
            | some o =>
              have h9 : ¬ ∃ (i : Nat) (l : Ob), s1.env[i]? = some (Slot.own l) ∧ σ[i]? = some (some (V.ref xa)) := by
                rintro ⟨i, l, q1, q2⟩
                obtain ⟨zs, q, _⟩ := R1.ownAt q1 q2
                rw [nx] at q
                cases q
              rw [ownG_not h9] at eo
              have := R1.m.gle xa o eo
              rw [nx] at this
              cases this
          · exact k _ H' F' θ' (RJ.back M l' p') (l1.trans l') (p1.trans p') (RpV.of rr)
    · cases ev
  · cases ev
theorem sMeth {sc : Scope} (C : Cxt D gc cf X sc) {m : Mt} {a : Ex} {es : List Ex} {x : Expr} {xs : List Expr} {ap cp : Pos} (hx : isCall x = false) (hl : (ap.endLine == cp.line) = true) (hn : xs.length < 10) (ha : PE X x (RE gc cf (MX D.cl X) a)) (h : PA X xs (RA gc cf (MX D.cl X) es)) (hc : chks D X.N sc es xs = true) :
    Snd D gc cf X (.meth m a es) (.Call (.Attribute x m.nm ap) xs [] cp) := by
  refine Snd.mk1 ⟨fun pins s0 σ H Q I hh => ?_⟩ rfl (fun _ => rfl) (fun s => by simp only [evX, fin])
  obtain ⟨F, G, θ, s, t, s', R, ev, k⟩ := hh
  simp only [evX, fin] at ev
  obtain ⟨x1, s1, e1, ev⟩ := Rs.bind_eq ev
  split at ev <;> first | (cases ev; done) | skip
  rename_i hrc
  obtain ⟨ts, s2, e2, ev⟩ := Rs.bind_eq ev
  split at ev
  · rename_i hp
    obtain ⟨hp1, hp2⟩ := and2 hp
    obtain ⟨e3, rfl⟩ := Rs.of_eq ev
    have hrp : (s1.deref x1).pure = true := by
      cases e9 : s1.deref x1 <;> first | rfl | (rw [e9] at hrc; cases m <;> cases hrc)
    cases es with
    | nil =>
      simp only [evEs] at e2
      cases e2
      exfalso
      revert e3
      rw [List.map_nil]
      unfold mtT
      split <;> (intro z; first | (cases z; done) | contradiction | skip)
    | cons e0 es0 =>
      cases xs with
      | nil => exact nomatch hc
      | cons y0 ys0 =>
        have hc' := hc
        simp only [chks] at hc'
        obtain ⟨h1, h2⟩ := and2 hc'
        obtain ⟨h1, h3⟩ := and2 h1
        have hst := star_cons (es := ys0) (env := X.env) (e := y0) (by simpa using h1)
        have hpl := chks_plain (env := X.env) (pos := cp) h2
        have hall : (backTo cp (starEach (y0 :: ys0) X.env)).all (fun x => !x.1) = true := by
          have q := chks_plain (env := X.env) (pos := cp) hc
          rw [List.all_eq_true]
          intro z hz
          have := List.any_eq_false.mp q z hz
          simpa using this
        have hfew : ((backTo cp (starEach (y0 :: ys0) X.env)).all (fun x => !x.1) && (backToKw cp (keywordEach [] X.env)).all (fun x => x.1.isSome) && decide ((y0 :: ys0).length + ([] : List Keyword).length + (if ([] : List Keyword).isEmpty then 0 else 1) < 30)) = true := by
          rw [hall, Bool.true_and, Bool.and_eq_true]
          exact ⟨rfl, decide_eq_true (by show (y0 :: ys0).length + 0 + 0 < 30; omega)⟩
        have rdr : ∀ v H1 F1 θ1, Rel (MX D.cl X) F1 G θ1 s1 σ H1 → FLe F F1 → θ <+: θ1 → RpV (MX D.cl X) F1 θ1 σ x1 v → ∀ {r : V → List V → Hp → VK → Prop}, (∀ vs H2, rMt (MX D.cl X) (s2.deref x1) (ts.map s2.deref) t v vs H2 Q → r v vs H2 Q) → RA gc cf (MX D.cl X) (e0 :: es0) σ H1 fun vs H2 => r v vs H2 Q := by
          intro v H1 F1 θ1 R1 l1 p1 r1 r hr
          exact ⟨F1, G, θ1, s1, ts, s2, R1, e2, fun vs H2 F2 θ2 R2 l2 p2 r2 => hr vs H2 ⟨F2, G, θ2, s2, σ, R2, R2.read (r1.mono l2 p2) hp1, R2.reads r2 hp2, fun u H' F' R' l' r' => k u H' F' θ2 R' (l1.trans (l2.trans l')) (p1.trans p2) (RpV.of r')⟩⟩
        -- what the receiver is, at its own time
        have strCase : ∀ {id : String}, m.sid = some id → PySem.Slot "str" m.nm id → typeOf (.builtin id) = pure (.type "method_descriptor") → wpAny (model X.prog X.w) X.A (eval (.Call (.Attribute x m.nm ap) (y0 :: ys0) [] cp) X.env) (EP X pins σ Q) X.xe s0 := by
          intro id hid sl ht
          obtain ⟨⟨z, hz⟩, hm⟩ := mtT_str (cl := D.cl) (X := X) hid e3
          refine (pe_bm PySem.F.plainAttrs_str sl ht hm ha h (attrBase hx) hfew hl hst hpl).run pins s0 σ H Q I ⟨F, G, θ, s, x1, s1, R, e1, fun v H1 F1 θ1 R1 l1 p1 r1 => ⟨?_, rdr v H1 F1 θ1 R1 l1 p1 r1 fun _ _ z => z⟩⟩
          have rd := R1.read r1 hrp
          cases e9 : s1.deref x1 with
          | str z' => rw [e9] at rd; cases strH rd; rfl
          | _ => exfalso; rw [e9] at hrc; cases m <;> first | (cases hrc; done) | (cases hid; done)
        cases m with
        | split => exact strCase rfl PySem.F.slot_str_split PySem.F.type_str_split
        | join => exact strCase rfl PySem.F.slot_str_join PySem.F.type_str_join
        | index => exact strCase rfl PySem.F.slot_str_index PySem.F.type_str_index
        | zfill => exact strCase rfl PySem.F.slot_str_zfill PySem.F.type_str_zfill
        | get =>
          obtain ⟨_, hm⟩ := mtT_get (cl := D.cl) (X := X) C.u64 e3
          refine (pe_mtD PySem.F.slot_dict_get PySem.F.type_dict_get hm ha h (attrBase hx) hfew hl hst hpl).run pins s0 σ H Q I ⟨F, G, θ, s, x1, s1, R, e1, fun v H1 F1 θ1 R1 l1 p1 r1 => ⟨?_, rdr v H1 F1 θ1 R1 l1 p1 r1 fun _ _ z => z⟩⟩
          refine isDd_of (K := MX D.cl X) R1.m.fle ?_ (R1.read r1 hrp)
          cases e9 : s1.deref x1 with
          | dk ks l => exact .inl ⟨_, _, rfl⟩
          | dt ks l => exact .inr (.inl ⟨_, _, rfl⟩)
          | dn ks l => exact .inr (.inr ⟨_, _, rfl⟩)
          | _ => exfalso; rw [e9] at hrc; cases hrc
  · cases ev
end
end Ev
/-! Soundness of expressions: comprehensions, the theorem. -/
namespace Ev
open PySem PySem.Spec L2
open PyProof.Rows hiding St
section
variable {D : Ds} {gc : Nat → Option Tr} {cf : CF} {X : Cx} {K : Mx} {F F' G H : Hp} {θ θ' : List Addr} {s : Sta} {σ : St}
theorem wipeE_len {env : List Slot} : ∀ own : List Nat, (wipeE env own).length = env.length
  | [] => rfl
  | v :: vs => by unfold wipeE; rw [List.length_set, wipeE_len vs]
theorem wipeE_get {env : List Slot} {i : Nat} {x : Slot} : ∀ {own : List Nat}, (wipeE env own)[i]? = some x → x = .none ∨ (env[i]? = some x ∧ i ∉ own)
  | [], h => .inr ⟨h, by simp⟩
  | v :: vs, h => by
    unfold wipeE at h
    rcases get_set h with ⟨_, e, _⟩ | ⟨ne, h⟩
    · exact .inl e
    · rcases wipeE_get h with z | ⟨z1, z2⟩
      · exact .inl z
      · exact .inr ⟨z1, by simp only [List.mem_cons, not_or]; exact ⟨fun e => ne e.symm, z2⟩⟩
/-- a block's state -/
theorem Rel.block {G2 H2 : Hp} {m : List Ob} {own : List Nat} (R : Rel K F G θ s σ H) (M : RelM K F' G2 θ' m H2) (hF : FLe F F') (hθ : θ <+: θ') (hG : FLe (ownG s σ G H) G2) : Rel K F' G2 θ' ⟨wipeE (s.env.map Slot.lock) own, m⟩ (wipe σ own) H2 := by
  have noOwn : ∀ (i : Nat) l, (wipeE (s.env.map Slot.lock) own)[i]? ≠ some (.own l) := fun i l h => by
    rcases wipeE_get h with z | ⟨z, _⟩
    · cases z
    · rw [List.getElem?_map] at z
      cases e : s.env[i]? with
      | none => rw [e] at z; cases z
      | some x =>
        rw [e] at z
        have z' : x.lock = .own l := Option.some.inj z
        cases x <;> cases z'
  refine ⟨M, by rw [wipeE_len, List.length_map, wipe_length]; exact R.len, fun i x e => ?_, fun i j l l' a e => absurd e (noOwn i l)⟩
  rcases wipeE_get e with rfl | ⟨z, hi⟩
  · exact trivial
  · rw [wipe_out hi]
    rw [List.getElem?_map] at z
    cases e1 : s.env[i]? with
    | none => rw [e1] at z; cases z
    | some y =>
      rw [e1] at z
      have z' : y.lock = x := Option.some.inj z
      have r := R.slot i y e1
      cases y with
      | none => cases z'; exact trivial
      | val t => cases z'; obtain ⟨w, e2, q⟩ := r; exact ⟨w, e2, q.mono hF hθ⟩
      | own l =>
        cases z'
        exact trivial
theorem lookup_relS_free {sc : Scope} : ∀ {names : List (Str × NameKind)} {x : Str}, names.lookup x = some .free →
    (names.map fun (n, k) => if (k == NameKind.free && sc.kind == .function && sc.names.lookup n == some .cell) then (n, NameKind.cell) else (n, k)).lookup x = some .free ∨
    (names.map fun (n, k) => if (k == NameKind.free && sc.kind == .function && sc.names.lookup n == some .cell) then (n, NameKind.cell) else (n, k)).lookup x = some .cell
  | [], _, h => by simp at h
  | (n, k) :: r, x, h => by
    have ih := @lookup_relS_free sc r x
    rw [List.map_cons]
    simp only
    cases hx : x == n with
    | true =>
      simp only [List.lookup_cons, hx] at h
      cases h
      split
      · exact .inr (by simp only [List.lookup_cons, hx])
      · exact .inl (by simp only [List.lookup_cons, hx])
    | false =>
      simp only [List.lookup_cons, hx] at h
      split
      · simp only [List.lookup_cons, hx]; exact ih h
      · simp only [List.lookup_cons, hx]; exact ih h
theorem compF_eq {tg : Tg} {env0 : List Slot} {cnd el : Sta → Rs Tr} {x : Tr} {m : List Ob} {r : Option Tr × List Ob} (h : compF tg env0 cnd el x m = some r) : ∃ env1 s2, asg tg x env0 = some env1 ∧
    ((cnd ⟨env1, m⟩ = .ok (.bl true) s2 ∧ ∃ y s3, el s2 = .ok y s3 ∧ y.pure = true ∧ r = (some y, s3.mem)) ∨ (cnd ⟨env1, m⟩ = .ok (.bl false) s2 ∧ r = (none, s2.mem))) := by
  unfold compF at h
  split at h
  · rename_i env1 e1
    split at h
    · rename_i s2 e2
      split at h
      · rename_i y s3 e3
        split at h
        · cases h
          exact ⟨env1, s2, e1, .inl ⟨e2, y, s3, e3, by assumption, rfl⟩⟩
        · cases h
      · cases h
    · rename_i s2 e2
      cases h
      exact ⟨env1, s2, e1, .inr ⟨e2, rfl⟩⟩
    · cases h
  · cases h
theorem wipe_in {i : Nat} : ∀ {vs : List Nat} {σ : St}, i ∈ vs → i < σ.length → (wipe σ vs)[i]? = some none
  | v :: vs, σ, h, hl => by
    unfold wipe
    by_cases e : v = i
    · subst e
      rw [List.getElem?_set_self (by rw [wipe_length]; exact hl)]
    · rw [List.getElem?_set_ne e]
      rcases List.mem_cons.mp h with z | z
      · exact absurd z.symm e
      · exact wipe_in z hl
theorem wipe_wipe {vs : List Nat} {σ : St} : wipe (wipe σ vs) vs = wipe σ vs := by
  apply List.ext_getElem?
  intro i
  by_cases h : i ∈ vs
  · by_cases hl : i < σ.length
    · rw [wipe_in h (by rw [wipe_length]; exact hl), wipe_in h hl]
    · rw [List.getElem?_eq_none (by rw [wipe_length, wipe_length]; omega), List.getElem?_eq_none (by rw [wipe_length]; omega)]
  · rw [wipe_out h]
/-- what a comprehension comes to is read: a list of nobody's -/
noncomputable def REO (gc : Nat → Option Tr) (cf : CF) (K : Mx) (e : Ex) (σ : St) (H : Hp) (Q : VK) : Prop := ∃ F G θ s l s', Rel K F G θ s σ H ∧ evX gc cf e false s = .ok (.lst l) s' ∧ ∀ H' F' θ' Da av, Rel K F' G θ' s' σ H' → FLe F F' → θ <+: θ' → H' Da = some (.lst av) → F' Da = none → G Da = none → Da ∉ θ' →
  (∀ (i : Nat) (l : Ob), s'.env[i]? = some (Slot.own l) → σ[i]? ≠ some (some (V.ref Da))) → Rps K F' θ' l av → Q (.ref Da) H'
theorem compReadW {K : Mx} {k : Nat} {elt cond : Ex} {tg : Tg} {its : List Ex} {own : List Nat} {tt : TT} (hin : tgIn own tg = true)
    (hC2 : ∀ {σ : St} {H : Hp} {Q : Bool → Hp → Prop} {F G : Hp} {θ : List Addr} {s : Sta} {b : Bool} {s' : Sta}, Rel K F G θ s σ H → (if isNul cond then .ok (.bl true) s else evX gc cf cond true s) = .ok (.bl b) s' → (∀ H' F' θ', Rel K F' G θ' s' σ H' → FLe F F' → θ <+: θ' → Q b H') → tt σ H Q)
    {σ : St} {H : Hp} {Q : VK} (hh : REO gc cf K (.comp k elt tg its cond own) σ H Q) : tLc (RI gc cf K k its) (RG K tg) tt (RE gc cf K elt) own σ H Q := by
  obtain ⟨F, G, θ, s, l0, s', R, ev, kk⟩ := hh
  simp only [evX, fin] at ev
  obtain ⟨vs, s1, e1, ev⟩ := Rs.bind_eq ev
  split at ev
  · rename_i xs hi
    split at hi
    · rename_i hp
      split at ev
      · rename_i ys mf ec
        cases ev
        refine ⟨F, G, θ, s, vs, s1, xs, R, e1, hp, hi, fun J H1 F1 θ1 R1 l1 p1 wk => fun Da nD => ?_⟩
        have gD : ownG s1 σ G H1 Da = none := R1.out.gle.none nD
        refine lc_it wk (fun i H' => ∃ F' θ' m acc av, RelM K F' (ownG s1 σ G H1) θ' m H' ∧ FLe F1 F' ∧ θ1 <+: θ' ∧ H' Da = some (.lst av) ∧ Rps K F' θ' acc av ∧ F' Da = none ∧ Da ∉ θ' ∧
          compGo (compF tg (wipeE (s1.env.map Slot.lock) own) (fun s => if isNul cond then .ok (.bl true) s else evX gc cf cond true s) (fun s => evX gc cf elt false s)) (xs.drop i) m acc = some (l0, mf)) ?_ ?_ ?_ ?_
        · have fD := R1.m.fle.none nD
          have tD : Da ∉ θ1 := R1.m.noTh nD
          exact ⟨F1, θ1, s1.mem, [], [], R1.out.junk nD, FLe.refl _, List.prefix_refl _, upd_same, .nil, fD, tD, ec⟩
        · rintro i H' _ ⟨F', θ', m, acc, av, M, l', _⟩
          exact ⟨l'.trans M.fle, .inr M.gle⟩
        · rintro i x H' H'' hlt ⟨F', θ', m, acc, av, M, l', p', hD, ra, fD, tD, eg⟩ ⟨t, ht, hy⟩
          have ed : xs.drop i = t :: xs.drop (i + 1) := by
            obtain ⟨h1, h2⟩ := List.getElem?_eq_some_iff.mp ht
            rw [List.drop_eq_getElem_cons h1, h2]
          rw [ed] at eg
          simp only [compGo] at eg
          have M2 := M.guard hD fD tD
          obtain ⟨F2, lF2, M3, rt⟩ : ∃ F2, FLe F' F2 ∧ RelM K F2 (upd (ownG s1 σ G H1) Da (.lst av)) θ' m H'' ∧ Rp K F2 θ' t x := by
            rcases hy with ⟨rfl, rr⟩ | ⟨p, l, ws, np, rfl, rfl, rfl, rr, _⟩
            · exact ⟨F', FLe.refl _, M2, rr.mono l' p'⟩
            · have fp := M2.fle.none np
              exact ⟨_, FLe.upd1 fp, M2.newF np, .tup (SqT.of upd_same) (rr.mono (l'.trans (FLe.upd1 fp)) p')⟩
          cases ef : compF tg (wipeE (s1.env.map Slot.lock) own) (fun s => if isNul cond then .ok (.bl true) s else evX gc cf cond true s) (fun s => evX gc cf elt false s) t m with
          | none => rw [ef] at eg; cases eg
          | some r =>
            rw [ef] at eg
            obtain ⟨env1, s2, ea, hcase⟩ := compF_eq ef
            have RB := R1.block (own := own) M3 (l'.trans lF2) p' (FLe.upd1 gD)
            refine ⟨F2, _, θ', _, m, t, env1, RB, rt, ea, fun σ2 R2 hw => ⟨(hw own hin).trans wipe_wipe, ?_⟩⟩
            rcases hcase with ⟨ecnd, y, s3, eel, py, rfl⟩ | ⟨ecnd, rfl⟩ <;> dsimp only at eg
            · refine hC2 R2 ecnd fun H3 F3 θ3 R3 l3 p3 => ?_
              rw [if_pos rfl]
              refine ⟨F3, _, θ3, s2, y, s3, R3, eel, fun v H4 F4 θ4 R4 l4 p4 r4 => ?_⟩
              have hD4 : H4 Da = some (.lst av) := R4.m.gle Da _ upd_same
              have lF4 : FLe F' F4 := lF2.trans (l3.trans l4)
              have pθ4 : θ' <+: θ4 := p3.trans p4
              split at eg
              · rename_i hsz
                refine ⟨av, hD4, by rw [ra.length]; exact hsz, F4, θ4, s3.mem, acc ++ [y], av ++ [v], R4.m.unguard gD, l'.trans lF4, p'.trans pθ4, upd_same, (ra.mono lF4 pθ4).append (.cons (r4.rp py) .nil), R4.m.fg Da _ upd_same, R4.m.gth (a := Da) upd_same, eg⟩
              · cases eg
            · refine hC2 R2 ecnd fun H3 F3 θ3 R3 l3 p3 => ?_
              rw [if_neg Bool.false_ne_true]
              exact ⟨F3, θ3, s2.mem, acc, av, R3.m.letgo gD, l'.trans (lF2.trans l3), p'.trans p3, R3.m.gle Da _ upd_same, ra.mono (lF2.trans l3) p3, R3.m.fg Da _ upd_same, R3.m.gth (a := Da) upd_same, eg⟩
        · rintro H' ⟨F', θ', m, acc, av, M, l', p', hD, ra, fD, tD, eg⟩
          rw [List.drop_length] at eg
          simp only [compGo] at eg
          cases eg
          have B := R1.back M l' p'
          refine kk H' _ θ' Da _ B (l1.trans l') (p1.trans p') hD fD (R1.m.gle.none nD) tD (fun i l e z => ?_) ra
          obtain ⟨zs, q, _⟩ := R1.ownAt e z
          rw [nD] at q
          cases q
      · cases ev
    · cases hi
  · cases ev
theorem RE.reo {K : Mx} {k : Nat} {elt cond : Ex} {tg : Tg} {its : List Ex} {own : List Nat} {σ : St} {H : Hp} {Q : VK} (hh : RE gc cf K (.comp k elt tg its cond own) σ H Q) : REO gc cf K (.comp k elt tg its cond own) σ H Q := by
  obtain ⟨F, G, θ, s, t, s', R, ev, kk⟩ := hh
  have hl : ∃ l, t = .lst l := by
    simp only [evX, fin] at ev
    obtain ⟨vs, s1, e1, ev⟩ := Rs.bind_eq ev
    split at ev
    · split at ev
      · cases ev; exact ⟨_, rfl⟩
      · cases ev
    · cases ev
  obtain ⟨l, rfl⟩ := hl
  exact ⟨F, G, θ, s, l, s', R, ev, fun H' F' θ' Da av B l' p' hD fD gD tD hw ra => kk _ H' _ θ' (B.fix hD fD gD tD hw) (l'.trans (FLe.upd1 fD)) p' (RpV.of (.lst upd_same (ra.mono (FLe.upd1 fD) (List.prefix_refl _))))⟩
theorem compRead {K : Mx} {k : Nat} {elt cond : Ex} {tg : Tg} {its : List Ex} {own : List Nat} {tt : TT} (hin : tgIn own tg = true)
    (hC2 : ∀ {σ : St} {H : Hp} {Q : Bool → Hp → Prop} {F G : Hp} {θ : List Addr} {s : Sta} {b : Bool} {s' : Sta}, Rel K F G θ s σ H → (if isNul cond then .ok (.bl true) s else evX gc cf cond true s) = .ok (.bl b) s' → (∀ H' F' θ', Rel K F' G θ' s' σ H' → FLe F F' → θ <+: θ' → Q b H') → tt σ H Q)
    {σ : St} {H : Hp} {Q : VK} (hh : RE gc cf K (.comp k elt tg its cond own) σ H Q) : tLc (RI gc cf K k its) (RG K tg) tt (RE gc cf K elt) own σ H Q := compReadW hin hC2 hh.reo
theorem Cxt.inBlk {sc scope : Scope} (C : Cxt D gc cf X sc) (s : Shared) (H : Hp) (Ca : Addr) (cl : List (Str × Addr)) (fp : List Addr) : Cxt D gc cf (X.blk s H scope (compEnvC scope cl Ca X.env) fp) scope := by
  have keep : ∀ x k, k ≠ .free → scope.names.lookup x = some k → (compEnvC scope cl Ca X.env).scope.names.lookup x = some k := fun x k hk h => lookup_relS_keep (sc := X.env.scope) hk h
  have free : ∀ x, scope.names.lookup x = some .free → (compEnvC scope cl Ca X.env).scope.names.lookup x = some .free ∨ (compEnvC scope cl Ca X.env).scope.names.lookup x = some .cell := fun x h => lookup_relS_free (sc := X.env.scope) h
  refine ⟨C.nd, C.calm, C.gd, rfl, fun x h => ?_, fun x h => ?_, fun x h => ?_, fun sc2 own2 h => ?_, C.gl, C.cls, C.kit2, C.mkF, C.blt, C.un, C.fn, C.mtF, C.prF, C.fnP⟩
  · rcases visB_ok h with z | z | z
    · exact .inl (keep x _ (by decide) z)
    · exact .inr (.inl (keep x _ (by decide) z))
    · rcases free x z with q | q
      · exact .inr (.inr q)
      · exact .inr (.inl q)
  · rcases locB_ok h with z | z
    · exact ⟨.inl (keep x _ (by decide) z), .inr (keep x _ (by decide) z)⟩
    · refine ⟨.inr (keep x _ (by decide) z), .inl ?_⟩
      show (scope.names.lookup x == some .cell) = true
      rw [z]
      rfl
  · unfold glB at h
    split at h
    · rename_i z
      exact keep x _ (by decide) z
    · cases h
  · have b := blkOk_by h
    refine ⟨b.kind, b.uniq, b.ix, fun y hy e => ?_, b.own⟩
    rcases b.free y hy e with z | z
    · exact .inl (keep _ _ (by decide) z)
    · rcases free _ z with q | q
      · exact .inr q
      · exact .inl q
theorem sCompW {sc : Scope} (C : Cxt D gc cf X sc) {e0 : Ex} {wi : TI} {elt cond : Ex} {tg : Tg} {own : List Nat} {e' tg' iter : Expr} {ifs : List Expr} {scope : Scope} {pos : Pos} {tt : TT} (hI : PI X tg' iter wi) (hb : blkC X.N sc scope (own.map fun i => (X.N.getD i "", i)) = true)
    (hS : isSetE iter = false) (hE : ∀ X' : Cx, Cxt D gc cf X' scope → X'.N = X.N → MX D.cl X' = MX D.cl X → Snd D gc cf X' elt e') (hT : chkT X.N scope tg tg' = true)
    (hC1 : ∀ X' : Cx, Cxt D gc cf X' scope → X'.N = X.N → MX D.cl X' = MX D.cl X → PTs X' ifs tt)
    (hrd : ∀ {σ : St} {H : Hp} {Q : VK}, RE gc cf (MX D.cl X) e0 σ H Q → tLc wi (RG (MX D.cl X) tg) tt (RE gc cf (MX D.cl X) elt) own σ H Q) (hev : ∀ s, evX gc cf e0 true s = fin true (evX gc cf e0 false s)) :
    Snd D gc cf X e0 (.ListComp e' [⟨tg', iter, ifs, 0⟩] scope pos) := by
  have bx : ∀ (s : Shared) (H : Hp) (Ca : Addr) (cl : List (Str × Addr)) (fp : List Addr), Cxt D gc cf (X.blk s H scope (compEnvC scope cl Ca X.env) fp) scope := fun s H Ca cl fp => C.inBlk s H Ca cl fp
  have hs : ∀ x, foldedSetIterable iter X.env x = pure x := fun x => by cases iter <;> first | rfl | (exact nomatch hS)
  have P := pe_lc (g := RG (MX D.cl X) tg) (tt := tt) (te := RE gc cf (MX D.cl X) elt) (pos := pos) C.calm C.nd hI (C.blk _ _ hb)
    (fun s H Ca cl fp => sT (cl := D.cl) (X := X.blk s H scope (compEnvC scope cl Ca X.env) fp) C.nd C.calm (bx s H Ca cl fp).loc tg tg' hT)
    (fun s H Ca cl fp => hC1 _ (bx s H Ca cl fp) rfl rfl) (fun s H Ca cl fp => (hE _ (bx s H Ca cl fp) rfl rfl).pe) hs
  have eo : (own.map fun i => (X.N.getD i "", i)).map (·.2) = own := by rw [List.map_map]; simp [Function.comp_def]
  rw [eo] at P
  exact Snd.mk1 ⟨fun pins s0 σ H Q I hh => P.run pins s0 σ H Q I (hrd hh)⟩ rfl (fun _ => rfl) hev
theorem sComp {sc : Scope} (C : Cxt D gc cf X sc) {k : Nat} {elt cond : Ex} {tg : Tg} {its : List Ex} {own : List Nat} {e' tg' iter : Expr} {ifs : List Expr} {scope : Scope} {pos : Pos} {tt : TT} (hI : PI X tg' iter (RI gc cf (MX D.cl X) k its)) (hb : blkC X.N sc scope (own.map fun i => (X.N.getD i "", i)) = true)
    (hS : isSetE iter = false) (hin : tgIn own tg = true) (hE : ∀ X' : Cx, Cxt D gc cf X' scope → X'.N = X.N → MX D.cl X' = MX D.cl X → Snd D gc cf X' elt e') (hT : chkT X.N scope tg tg' = true)
    (hC1 : ∀ X' : Cx, Cxt D gc cf X' scope → X'.N = X.N → MX D.cl X' = MX D.cl X → PTs X' ifs tt)
    (hC2 : ∀ {σ : St} {H : Hp} {Q : Bool → Hp → Prop} {F G : Hp} {θ : List Addr} {s : Sta} {b : Bool} {s' : Sta}, Rel (MX D.cl X) F G θ s σ H → (if isNul cond then .ok (.bl true) s else evX gc cf cond true s) = .ok (.bl b) s' → (∀ H' F' θ', Rel (MX D.cl X) F' G θ' s' σ H' → FLe F F' → θ <+: θ' → Q b H') → tt σ H Q) :
    Snd D gc cf X (.comp k elt tg its cond own) (.ListComp e' [⟨tg', iter, ifs, 0⟩] scope pos) :=
  sCompW (cond := cond) C hI hb hS hE hT hC1 (fun hh => compRead hin hC2 hh) (fun s => by simp only [evX, fin])
theorem sCompP {sc : Scope} (C : Cxt D gc cf X sc) {k : Nat} {elt cond : Ex} {tg : Tg} {its : List Ex} {own : List Nat} {e' tg' iter : Expr} {ifs : List Expr} {scope : Scope} {pos : Pos} {tt : TT} (hI : PI X tg' iter (RI gc cf (MX D.cl X) k its)) (hb : blkC X.N sc scope (own.map fun i => (X.N.getD i "", i)) = true)
    (hS : isSetE iter = false) (hin : tgIn own tg = true) (hE : ∀ X' : Cx, Cxt D gc cf X' scope → X'.N = X.N → MX D.cl X' = MX D.cl X → Snd D gc cf X' elt e') (hT : chkT X.N scope tg tg' = true)
    (hC1 : ∀ X' : Cx, Cxt D gc cf X' scope → X'.N = X.N → MX D.cl X' = MX D.cl X → PTs X' ifs tt)
    (hC2 : ∀ {σ : St} {H : Hp} {Q : Bool → Hp → Prop} {F G : Hp} {θ : List Addr} {s : Sta} {b : Bool} {s' : Sta}, Rel (MX D.cl X) F G θ s σ H → (if isNul cond then .ok (.bl true) s else evX gc cf cond true s) = .ok (.bl b) s' → (∀ H' F' θ', Rel (MX D.cl X) F' G θ' s' σ H' → FLe F F' → θ <+: θ' → Q b H') → tt σ H Q) :
    ∃ t, PE X (.ListComp e' [⟨tg', iter, ifs, 0⟩] scope pos) t ∧ ∀ {σ : St} {H : Hp} {Q : VK}, REO gc cf (MX D.cl X) (.comp k elt tg its cond own) σ H Q → t σ H Q := by
  have bx : ∀ (s : Shared) (H : Hp) (Ca : Addr) (cl : List (Str × Addr)) (fp : List Addr), Cxt D gc cf (X.blk s H scope (compEnvC scope cl Ca X.env) fp) scope := fun s H Ca cl fp => C.inBlk s H Ca cl fp
  have hs : ∀ x, foldedSetIterable iter X.env x = pure x := fun x => by cases iter <;> first | rfl | (exact nomatch hS)
  have P := pe_lc (g := RG (MX D.cl X) tg) (tt := tt) (te := RE gc cf (MX D.cl X) elt) (pos := pos) C.calm C.nd hI (C.blk _ _ hb)
    (fun s H Ca cl fp => sT (cl := D.cl) (X := X.blk s H scope (compEnvC scope cl Ca X.env) fp) C.nd C.calm (bx s H Ca cl fp).loc tg tg' hT)
    (fun s H Ca cl fp => hC1 _ (bx s H Ca cl fp) rfl rfl) (fun s H Ca cl fp => (hE _ (bx s H Ca cl fp) rfl rfl).pe) hs
  have eo : (own.map fun i => (X.N.getD i "", i)).map (·.2) = own := by rw [List.map_map]; simp [Function.comp_def]
  rw [eo] at P
  exact ⟨_, P, fun hh => compReadW hin hC2 hh⟩
theorem sSetComp {sc : Scope} (C : Cxt D gc cf X sc) {k : Nat} {elt cond : Ex} {tg : Tg} {its : List Ex} {own : List Nat} {e' tg' iter : Expr} {ifs : List Expr} {scope : Scope} {pos : Pos} {tt : TT} (hI : PI X tg' iter (RI gc cf (MX D.cl X) k its)) (hb : blkC X.N sc scope (own.map fun i => (X.N.getD i "", i)) = true)
    (hS : isSetE iter = false) (hin : tgIn own tg = true) (hE : ∀ X' : Cx, Cxt D gc cf X' scope → X'.N = X.N → MX D.cl X' = MX D.cl X → Snd D gc cf X' elt e') (hT : chkT X.N scope tg tg' = true)
    (hC1 : ∀ X' : Cx, Cxt D gc cf X' scope → X'.N = X.N → MX D.cl X' = MX D.cl X → PTs X' ifs tt)
    (hC2 : ∀ {σ : St} {H : Hp} {Q : Bool → Hp → Prop} {F G : Hp} {θ : List Addr} {s : Sta} {b : Bool} {s' : Sta}, Rel (MX D.cl X) F G θ s σ H → (if isNul cond then .ok (.bl true) s else evX gc cf cond true s) = .ok (.bl b) s' → (∀ H' F' θ', Rel (MX D.cl X) F' G θ' s' σ H' → FLe F F' → θ <+: θ' → Q b H') → tt σ H Q)
    {i : Nat} {y : Str} {py spos : Pos} (hy : X.N[i]? = some y) (hyl : X.env.scope.names.lookup y = some .local) (hsw : swapsWith (.ListComp e' [⟨tg', iter, ifs, 0⟩] scope pos) (some (.Name y py)) spos.line X.env = pure true) :
    ∃ t, PS X (.Assign [.Name y py] (.ListComp e' [⟨tg', iter, ifs, 0⟩] scope pos) spos) (tAsg t (gName i)) ∧ ∀ {σ : St} {H : Hp} {Q : VK}, REO gc cf (MX D.cl X) (.comp k elt tg its cond own) σ H Q → t σ H Q := by
  have bx : ∀ (s : Shared) (H : Hp) (Ca : Addr) (cl : List (Str × Addr)) (fp : List Addr), Cxt D gc cf (X.blk s H scope (compEnvC scope cl Ca X.env) fp) scope := fun s H Ca cl fp => by
    have keep : ∀ x k, k ≠ .free → scope.names.lookup x = some k → (compEnvC scope cl Ca X.env).scope.names.lookup x = some k := fun x k hk h => lookup_relS_keep (sc := X.env.scope) hk h
    have free : ∀ x, scope.names.lookup x = some .free → (compEnvC scope cl Ca X.env).scope.names.lookup x = some .free ∨ (compEnvC scope cl Ca X.env).scope.names.lookup x = some .cell := fun x h => lookup_relS_free (sc := X.env.scope) h
    refine ⟨C.nd, C.calm, C.gd, rfl, fun x h => ?_, fun x h => ?_, fun x h => ?_, fun sc2 own2 h => ?_, C.gl, C.cls, C.kit2, C.mkF, C.blt, C.un, C.fn, C.mtF, C.prF, C.fnP⟩
    · rcases visB_ok h with z | z | z
      · exact .inl (keep x _ (by decide) z)
      · exact .inr (.inl (keep x _ (by decide) z))
      · rcases free x z with q | q
        · exact .inr (.inr q)
        · exact .inr (.inl q)
    · rcases locB_ok h with z | z
      · exact ⟨.inl (keep x _ (by decide) z), .inr (keep x _ (by decide) z)⟩
      · refine ⟨.inr (keep x _ (by decide) z), .inl ?_⟩
        show (scope.names.lookup x == some .cell) = true
        rw [z]
        rfl
    · unfold glB at h
      split at h
      · rename_i z
        exact keep x _ (by decide) z
      · cases h
    · have b := blkOk_by h
      refine ⟨b.kind, b.uniq, b.ix, fun y hy e => ?_, b.own⟩
      rcases b.free y hy e with z | z
      · exact .inl (keep _ _ (by decide) z)
      · rcases free _ z with q | q
        · exact .inr q
        · exact .inl q
  have hs : ∀ x, foldedSetIterable iter X.env x = pure x := fun x => by cases iter <;> first | rfl | (exact nomatch hS)
  have P := ps_setLc (g := RG (MX D.cl X) tg) (tt := tt) (te := RE gc cf (MX D.cl X) elt) C.calm C.nd hy hyl hsw hI (C.blk _ _ hb)
    (fun s H Ca cl fp => sT (cl := D.cl) (X := X.blk s H scope (compEnvC scope cl Ca X.env) fp) C.nd C.calm (bx s H Ca cl fp).loc tg tg' hT)
    (fun s H Ca cl fp => hC1 _ (bx s H Ca cl fp) rfl rfl) (fun s H Ca cl fp => (hE _ (bx s H Ca cl fp) rfl rfl).pe) hs
  have eo : (own.map fun i => (X.N.getD i "", i)).map (·.2) = own := by rw [List.map_map]; simp [Function.comp_def]
  rw [eo] at P
  exact ⟨_, P, fun hh => compReadW hin hC2 hh⟩
end
end Ev
/-! Objects in memory: methods, lists that an object holds. -/
namespace Ev
open PySem PySem.Spec PyProof.Rows L2
theorem Rel.readO {K : Mx} {F G H : Hp} {θ : List Addr} {s : Sta} {σ : L2.St} (R : Rel K F G θ s σ H) {n : Nat} {l : List Tr} {v : V} (r : RpV K F θ σ (.ob n) v) (e : s.mem[n]? = some (.lst l)) : RpH K F θ H (.lst l) v := by
  have r' : Rp K F θ (.ob n) v := r
  cases r' with
  | ob e' =>
    obtain ⟨b, h1, _, _, o, ho, rb⟩ := R.m.ob n _ e (fun z => nomatch z)
    rw [e'] at h1
    cases h1
    exact rb.rpH ho
section
variable {X : Cx} {k : Nat} {f C : Addr} {fd : FuncData} {ps : List Str} {sp : Sp} {m y : Str} {p pos apos : Pos} {e : Expr} {es : List Expr} {ta : TE} {t : TA}
/-- a method of an object that a name holds -/
noncomputable def tMG (C : Addr) (m : Str) (sp : Sp) (ta : TE) (t : TA) : TE := fun σ H Q => ta σ H fun x H1 => ∃ a dx fs, x = .ref a ∧ H1 a = some (.ins C dx fs) ∧ fs.lookup m = none ∧ t σ H1 fun vs H2 => sp (x :: vs) H2 Q E0
theorem meth_call {prog : Program} {w : World} {A : Around} {E : Value → Shared → Prop} {s : Shared} {env : Env} {args : List Expr} {Q : Value → Shared → Prop}
    (hfew : ((backTo pos (starEach args env)).all (fun x => !x.1) && (backToKw pos (keywordEach [] env)).all (fun x => x.1.isSome) && decide (args.length + ([] : List Keyword).length + (if ([] : List Keyword).isEmpty then 0 else 1) < 30)) = true) (hline : (apos.endLine == pos.line) = true)
    (h : wpAny (model prog w) A (eval (.Name y p) env) (fun ov s1 => wpAny (model prog w) A (getMethod ov m (do return (← importBound (.Name y p) env).getD true)) (fun fx s2 => wpAny (model prog w) A (callWith pos fx.1 fx.2 (backTo pos (starEach args env)) (backToKw pos (keywordEach [] env))) Q E s2) E s1) E s) :
    wpAny (model prog w) A (eval (.Call (.Attribute (.Name y p) m apos) args [] pos) env) Q E s := by
  rw [arm_eval_Call]
  have hb : attributeBase (.Name y p) m env (eval (.Name y p) env) = eval (.Name y p) env := rfl
  rw [hb]
  refine wpAny_bind (wpAny_mono h (fun ov s1 h1 => wpAny_bind (wpAny_standAt ?_)) fun _ _ z => z)
  have hform : methodCallForm (args.length + ([] : List Keyword).length) (backTo pos (starEach args env)) (backToKw pos (keywordEach [] env)) = true := hfew
  have hpos : methodCallPos true (.Name y p) env apos pos = pure pos := by unfold methodCallPos; simp [hline]
  unfold methodCall
  rw [hform]
  refine wpAny_bind (wpAny_holding (wpAny_mono h1 (fun fx s2 h2 => ?_) fun _ _ z => z))
  exact wpAny_bind (wpAny_of_eq hpos h2)
theorem pe_methG (he : PE X (.Name y p) ta) (c : Cls X.K C) (hm : Meth X.K C m f) (F : FnG X.prog X.w X.K X.mg X.base k f fd ps sp) (hr : Room k X.A) (hgd : X.A.guards = some []) (hb : Binds X.K fd ps []) (ha : PA X (e :: es) t) (hline : (apos.endLine == pos.line) = true)
    (hfew : ((backTo pos (starEach (e :: es) X.env)).all (fun x => !x.1) && (backToKw pos (keywordEach [] X.env)).all (fun x => x.1.isSome) && decide ((e :: es).length + ([] : List Keyword).length + (if ([] : List Keyword).isEmpty then 0 else 1) < 30)) = true)
    (hst : starEach (e :: es) X.env = (false, eval e X.env) :: starEach es X.env) (hpl : (backTo pos (starEach es X.env)).any (·.1) = false) : PE X (.Call (.Attribute (.Name y p) m apos) (e :: es) [] pos) (tMG C m sp ta t) := by
  refine ⟨fun pins s σ H Q I hh => meth_call hfew hline (thn (he.run pins s σ H _ I hh) fun u s1 q => ?_)⟩
  obtain ⟨x, H1, I1, rx, a, dx, fs, rfl, ea, l, q⟩ := q
  obtain rfl : u = Value.ref a := rx
  refine getmeth_ok I1 ea c hm l (PySem.W.callWith_K (first := [.ref a]) (h₀ := X.base) I.ok.mod.kin hm.kp (thn (ha.run pos pins s1 σ H1 _ I1 q) fun us s2 z => ?_) hst hpl)
  obtain ⟨vs, H2, I2, r, q2⟩ := z
  exact ⟨I2.kIn, run_fnG (us := .ref a :: us) (vs := .ref a :: vs) F hr hgd hb I2 (.cons rfl r) q2⟩
theorem pe_methG0 (he : PE X (.Name y p) ta) (c : Cls X.K C) (hm : Meth X.K C m f) (F : FnG X.prog X.w X.K X.mg X.base k f fd ps sp) (hr : Room k X.A) (hgd : X.A.guards = some []) (hb : Binds X.K fd ps []) (hline : (apos.endLine == pos.line) = true) :
    PE X (.Call (.Attribute (.Name y p) m apos) [] [] pos) (tMG C m sp ta tNil) := by
  refine ⟨fun pins s σ H Q I hh => meth_call rfl hline (thn (he.run pins s σ H _ I hh) fun u s1 q => ?_)⟩
  obtain ⟨x, H1, I1, rx, a, dx, fs, rfl, ea, l, q⟩ := q
  obtain rfl : u = Value.ref a := rx
  exact getmeth_ok I1 ea c hm l (PySem.W.callWith_K0 (first := [.ref a]) I1.kIn hm.kp (run_fnG (us := [.ref a]) (vs := [.ref a]) F hr hgd hb I1 (.cons rfl .nil) q))
end
section
variable {D : Ds} {gc : Nat → Option Tr} {cf : CF} {X : Cx}
theorem sCmpO {sc : Scope} (C : Cxt D gc cf X sc) {o : Cp} {a b : Ex} {x y : Expr} {pos : Pos} (ha : PE X x (RE gc cf (MX D.cl X) a)) (hb : PE X y (RE gc cf (MX D.cl X) b)) (hm : behindInMarks o.py y = false) : Snd D gc cf X (.cmpO o a b) (.Compare x [o.py] [y] pos) := by
  have main : ∀ {s s' : Sta} {t : Tr}, evX gc cf (.cmpO o a b) false s = .ok t s' → ∃ n l s1 y1 c, evX gc cf a false s = .ok (.ob n) s1 ∧ evX gc cf b false s1 = .ok y1 s' ∧ s'.mem[n]? = some (.lst l) ∧ opC2 o (.lst l) (s'.deref y1) = some c ∧ t = .bl c := by
    intro s s' t ev
    simp only [evX, fin] at ev
    obtain ⟨x1, s1, e1, ev⟩ := Rs.bind_eq ev
    obtain ⟨y1, s2, e2, ev⟩ := Rs.bind_eq ev
    cases x1 with
    | ob n =>
      dsimp only at ev
      cases hm : s2.mem[n]? with
      | none => rw [hm] at ev; cases ev
      | some ob =>
        rw [hm] at ev
        cases ob with
        | lst l =>
          obtain ⟨e3, rfl⟩ := Rs.of_eq ev
          obtain ⟨c, e4, rfl⟩ := map_some e3
          exact ⟨n, l, s1, y1, c, e1, e2, hm, e4, rfl⟩
        | _ => cases ev
    | _ => cases ev
  refine ⟨⟨fun pins s0 σ H Q I h => ?_⟩, ⟨fun pins s0 σ H Q I h => ?_⟩, fun z => nomatch z⟩
  · obtain ⟨F, G, θ, s, t, s', R, ev, k⟩ := h
    obtain ⟨n, l, s1, y1, c, e1, e2, hl, e3, rfl⟩ := main ev
    obtain ⟨n1, n2, e3⟩ := opC2_ok e3
    exact (pe_cmpR (opC_ok (cl := D.cl) C.u64 e3) ha hb hm).run pins s0 σ H Q I ⟨F, G, θ, s, _, s1, R, e1, fun v H1 F1 θ1 R1 l1 p1 r1 => ⟨F1, G, θ1, s1, y1, s', R1, e2, fun w H2 F2 θ2 R2 l2 p2 r2 =>
      ⟨F2, θ2, R2.m.fle, R2.readO (r1.mono l2 p2) hl, R2.read r2 n2, k _ H2 F2 θ2 R2 (l1.trans l2) (p1.trans p2) (RpV.of (.bl c))⟩⟩⟩
  · obtain ⟨F, G, θ, s, b0, s', R, ev, k⟩ := h
    have ev' : fin true (evX gc cf (.cmpO o a b) false s) = .ok (.bl b0) s' := by
      simp only [evX, fin] at ev ⊢
      exact ev
    obtain ⟨x, h1, h2⟩ := fin_bl ev'
    obtain ⟨n, l, s1, y1, c, e1, e2, hl, e3, rfl⟩ := main h1
    cases h2
    obtain ⟨n1, n2, e3⟩ := opC2_ok e3
    exact (pt_cmpR (opC_ok (cl := D.cl) C.u64 e3) ha hb hm).run pins s0 σ H Q I ⟨F, G, θ, s, _, s1, R, e1, fun v H1 F1 θ1 R1 l1 p1 r1 => ⟨F1, G, θ1, s1, y1, s', R1, e2, fun w H2 F2 θ2 R2 l2 p2 r2 =>
      ⟨F2, θ2, R2.m.fle, R2.readO (r1.mono l2 p2) hl, R2.read r2 n2, _, rfl, k H2 F2 θ2 R2 (l1.trans l2) (p1.trans p2)⟩⟩⟩
theorem sBiO {sc : Scope} {b : Bi} {a : Ex} {z : Expr} {p pos : Pos} {id : String} (hid : b.tyId = some id) (hg : Gl X b.nm) (hm : X.mg b.nm = none) (hz : isStar z = false) (ha : PE X z (RE gc cf (MX D.cl X) a)) : Snd D gc cf X (.biO b a) (.Call (.Name b.nm p) [z] [] pos) := by
  refine Snd.mk1 ⟨fun pins s0 σ H Q I hh => ?_⟩ rfl (fun _ => rfl) (fun s => by simp only [evX, fin])
  obtain ⟨F, G, θ, s, t, s', R, ev, k⟩ := hh
  simp only [evX, fin] at ev
  obtain ⟨x1, s1, e1, ev⟩ := Rs.bind_eq ev
  cases x1 with
  | ob n =>
    dsimp only at ev
    cases hl : s1.mem[n]? with
    | none => rw [hl] at ev; cases ev
    | some ob =>
    rw [hl] at ev
    cases ob with
    | lst l =>
      obtain ⟨e3, rfl⟩ := Rs.of_eq ev
      have pa := pa_cons ha pa_nil (star_cons hz)
      refine (pe_callTy (biT_ty (cl := D.cl) hid e3) hg hm (ty_boot hid) pa (nm_ne b) (nm_db b) (star_cons hz) rfl).run pins s0 σ H Q I ⟨F, G, θ, s, _, s1, R, e1, fun v H1 F1 θ1 R1 l1 p1 r1 => ?_⟩
      exact ⟨F1, G, θ1, _, σ, R1, .cons (R1.readO r1 hl) .nil, fun u H' F' R' l' r' => k u H' F' θ1 R' (l1.trans l') p1 (RpV.of r')⟩
    | _ => cases ev
  | _ => cases ev
theorem lookup_no {α : Type} {m : Str} : ∀ {fs : List (Str × α)}, m ∉ fs.map (·.1) → fs.lookup m = none
  | [], _ => rfl
  | (x, v) :: fs, h => by
    rw [List.map_cons, List.mem_cons] at h
    have h1 : (m == x) = false := by
      apply Bool.eq_false_iff.mpr
      intro z
      exact h (.inl (eq_of_beq z))
    rw [List.lookup_cons, h1]
    exact lookup_no fun z => h (.inr z)
theorem sMcall {sc : Scope} (C : Cxt D gc cf X sc) {c m : Str} {f : Nat} {a : Ex} {es : List Ex} {xs : List Expr} {y : Str} {p ap pos : Pos} (hf : D.mts.lookup f = some (c, m)) (ha : PE X (.Name y p) (RE gc cf (MX D.cl X) a)) (h : PA X xs (RA gc cf (MX D.cl X) es)) (hc : chks D X.N sc es xs = true) (hline : (ap.endLine == pos.line) = true) (hlen10 : xs.length < 10) :
    Snd D gc cf X (.mcall c m f a es) (.Call (.Attribute (.Name y p) m ap) xs [] pos) := by
  refine Snd.mk1 ⟨fun pins s0 σ H Q I hh => ?_⟩ rfl (fun _ => rfl) (fun s => by simp only [evX, fin])
  obtain ⟨F, G, θ, s, t, s', R, ev, k⟩ := hh
  simp only [evX, fin] at ev
  have ev0 := Rs.bind_eq ev
  clear ev
  obtain ⟨x1, s1, e1, ev⟩ := ev0
  obtain ⟨n, rfl⟩ : ∃ n, x1 = .ob n := by
    cases x1 with
    | ob n => exact ⟨n, rfl⟩
    | _ => cases ev
  dsimp only at ev
  obtain ⟨c', ns, l, hmem⟩ : ∃ c' ns l, s1.mem[n]? = some (.ins c' ns l) := by
    cases hm : s1.mem[n]? with
    | none => rw [hm] at ev; cases ev
    | some ob =>
      rw [hm] at ev
      cases ob with
      | ins c' ns l => exact ⟨c', ns, l, rfl⟩
      | _ => cases ev
  rw [hmem] at ev
  dsimp only at ev
  by_cases hcn : c' = c ∧ m ∉ ns
  rotate_left
  · rw [if_neg hcn] at ev
    cases ev
  rw [if_pos hcn] at ev
  obtain ⟨rfl, hn⟩ := hcn
  have ev0 := Rs.bind_eq ev
  clear ev
  obtain ⟨ts, s2, e2, ev⟩ := ev0
  by_cases hp : ts.all Tr.pure = true
  rotate_left
  · rw [if_neg hp] at ev
    cases ev
  rw [if_pos hp] at ev
  obtain ⟨t', m', e3⟩ : ∃ t' m', cf f (.ob n :: ts) s2.mem = some (t', m') := by
    cases hc2 : cf f (.ob n :: ts) s2.mem with
    | none => rw [hc2] at ev; cases ev
    | some r => exact ⟨r.1, r.2, rfl⟩
  rw [e3] at ev
  cases ev
  obtain ⟨C0, fa, fd, ps, kk, hcl, hmg, hM, hb, hr, hF, hlen⟩ := C.mtF f _ m hf (.ob n :: ts) s2.mem _ e3
  replace hb := hb.binds
  obtain ⟨C1, hmg1, hcf⟩ := C.cls _ hcl
  rw [hmg] at hmg1
  cases hmg1
  have inst : ∀ v H1 F1 θ1, Rel (MX D.cl X) F1 G θ1 s1 σ H1 → RpV (MX D.cl X) F1 θ1 σ (.ob n) v → ∃ b dx fs, v = .ref b ∧ H1 b = some (.ins C0 dx fs) ∧ fs.lookup m = none := by
    intro v H1 F1 θ1 R1 r1
    have r' : Rp (MX D.cl X) F1 θ1 (.ob n) v := r1
    cases r' with
    | ob e' =>
      obtain ⟨b, h1, _, _, o, ho, rb⟩ := R1.m.ob n _ hmem (fun z => nomatch z)
      rw [e'] at h1
      cases h1
      obtain ⟨C2, dx, fs, rfl, _, g, e9, _⟩ := rb
      have g' : X.mg c' = some (.ref C2) := g
      rw [hmg] at g'
      cases g'
      exact ⟨_, dx, fs, rfl, ho, lookup_no (by rw [e9]; exact hn)⟩
  have rd : ∀ v vs H1 F1 θ1, Rel (MX D.cl X) F1 G θ1 s2 σ H1 → FLe F F1 → θ <+: θ1 → RpV (MX D.cl X) F1 θ1 σ (.ob n) v → RpVs (MX D.cl X) F1 θ1 σ ts vs → SpE (MX D.cl X) cf f ps.length (v :: vs) H1 Q E0 := by
    intro v vs H1 F1 θ1 R1 l1 p1 r0 r1
    have r : Rps (MX D.cl X) F1 θ1 (.ob n :: ts) (v :: vs) := .cons r0 (r1.rps hp)
    refine ⟨by rw [r.length, hlen], F1, ownG s2 σ G H1, θ1, _, s2.mem, _, m', R1.out, r, e3, fun u H' F' θ' M l' p' rr => ?_⟩
    exact k u H' F' θ' (R1.back M l' p') (l1.trans l') (p1.trans p') (RpV.of rr)
  cases xs with
  | nil =>
    cases es with
    | cons _ _ => exact nomatch hc
    | nil =>
      simp only [evEs] at e2
      cases e2
      refine (pe_methG0 ha hcf.cl hM hF hr C.gd hb hline).run pins s0 σ H Q I ⟨F, G, θ, s, _, s1, R, e1, fun v H1 F1 θ1 R1 l1 p1 r1 => ?_⟩
      obtain ⟨b, dx, fs, rfl, hi, hl⟩ := inst v H1 F1 θ1 R1 r1
      exact ⟨b, dx, fs, rfl, hi, hl, rd _ [] H1 F1 θ1 R1 l1 p1 r1 .nil⟩
  | cons e es' =>
    cases es with
    | nil => exact nomatch hc
    | cons e0 es0 =>
      have hc' := hc
      simp only [chks] at hc'
      obtain ⟨h1, h2⟩ := and2 hc'
      obtain ⟨h1, h3⟩ := and2 h1
      have hall : (backTo pos (starEach (e :: es') X.env)).all (fun x => !x.1) = true := by
        have q := chks_plain (env := X.env) (pos := pos) hc
        rw [List.all_eq_true]
        intro z hz
        have := List.any_eq_false.mp q z hz
        simpa using this
      have hfew : ((backTo pos (starEach (e :: es') X.env)).all (fun x => !x.1) && (backToKw pos (keywordEach [] X.env)).all (fun x => x.1.isSome) && decide ((e :: es').length + ([] : List Keyword).length + (if ([] : List Keyword).isEmpty then 0 else 1) < 30)) = true := by
        rw [hall, Bool.true_and, Bool.and_eq_true]
        exact ⟨rfl, decide_eq_true (by show (e :: es').length + 0 + 0 < 30; omega)⟩
      refine (pe_methG ha hcf.cl hM hF hr C.gd hb h hline hfew (star_cons (by simpa using h1)) (chks_plain h2)).run pins s0 σ H Q I ⟨F, G, θ, s, _, s1, R, e1, fun v H1 F1 θ1 R1 l1 p1 r1 => ?_⟩
      obtain ⟨b, dx, fs, rfl, hi, hl⟩ := inst v H1 F1 θ1 R1 r1
      exact ⟨b, dx, fs, rfl, hi, hl, F1, G, θ1, s1, ts, s2, R1, e2, fun vs H2 F2 θ2 R2 l2 p2 r2 => rd _ vs H2 F2 θ2 R2 (l1.trans l2) (p1.trans p2) (r1.mono l2 p2) r2⟩
/-! ### a comprehension over a list that an object holds -/
theorem fin_same {md : Bool} {r : Rs Tr} {s s' : Sta} {t : Tr} (h : ∀ t s', r = .ok t s' → s' = s) (e : fin md r = .ok t s') : s' = s := by
  cases md with
  | false => exact h _ _ e
  | true =>
    obtain ⟨x, s1, e1, e2⟩ := Rs.bind_eq e
    obtain ⟨_, rfl⟩ := Rs.of_eq e2
    exact h _ _ e1
theorem of_same {o : Option Tr} {s s' : Sta} {t : Tr} (e : Rs.of o s = .ok t s') : s' = s := (Rs.of_eq e).2.symm
mutual
theorem quiet_same : ∀ (e : Ex) {md : Bool} {s s' : Sta} {t : Tr}, quiet e = true → evX gc cf e md s = .ok t s' → s' = s
  | .var i, md, s, s', t, _, h => by
    simp only [evX] at h
    refine fin_same (fun t s' e => ?_) h
    split at e <;> first | (cases e; done) | (cases e; rfl)
  | .gl k, md, s, s', t, _, h => by
    simp only [evX] at h
    exact fin_same (fun t s' e => of_same e) h
  | .int i, md, s, s', t, _, h => by
    simp only [evX] at h
    exact fin_same (fun t s' e => by cases e; rfl) h
  | .str i, md, s, s', t, _, h => by
    simp only [evX] at h
    exact fin_same (fun t s' e => by cases e; rfl) h
  | .non, md, s, s', t, _, h => by
    simp only [evX] at h
    exact fin_same (fun t s' e => by cases e; rfl) h
  | .tup es, md, s, s', t, q, h => by
    simp only [evX] at h
    refine fin_same (fun t s' e => ?_) h
    obtain ⟨ts, s1, e1, e2⟩ := Rs.bind_eq e
    have := quiets_same es q e1
    subst this
    split at e2 <;> first | (cases e2; done) | (cases e2; rfl)
  | .cmp o a b, md, s, s', t, q, h => by
    obtain ⟨qa, qb⟩ := and2 q
    simp only [evX] at h
    refine fin_same (fun t s' e => ?_) h
    obtain ⟨x, s1, e1, e2⟩ := Rs.bind_eq e
    obtain ⟨y, s2, e3, e4⟩ := Rs.bind_eq e2
    have h1 := quiet_same a qa e1
    subst h1
    have h2 := quiet_same b qb e3
    subst h2
    exact of_same e4
  | .idx a b, md, s, s', t, q, h => by
    obtain ⟨qa, qb⟩ := and2 q
    simp only [evX] at h
    refine fin_same (fun t s' e => ?_) h
    obtain ⟨x, s1, e1, e2⟩ := Rs.bind_eq e
    obtain ⟨y, s2, e3, e4⟩ := Rs.bind_eq e2
    have h1 := quiet_same a qa e1
    subst h1
    have h2 := quiet_same b qb e3
    subst h2
    split at e4
    · split at e4
      · exact of_same e4
      · cases e4
    · exact of_same e4
  | .sl a lo hi, md, s, s', t, q, h => by
    obtain ⟨q1, qh⟩ := and2 q
    obtain ⟨qa, ql⟩ := and2 q1
    simp only [evX] at h
    refine fin_same (fun t s' e => ?_) h
    obtain ⟨x, s1, e1, e2⟩ := Rs.bind_eq e
    obtain ⟨y, s2, e3, e4⟩ := Rs.bind_eq e2
    obtain ⟨z, s3, e5, e6⟩ := Rs.bind_eq e4
    have h1 := quiet_same a qa e1
    subst h1
    have part : ∀ {w : Ex} {s s' : Sta} {o : Option Int}, (isNul w || quiet w) = true → (quiet w = true → ∀ {t s'}, evX gc cf w false s = .ok t s' → s' = s) → (if isNul w = true then Rs.ok none s else asInt (evX gc cf w false s)) = .ok o s' → s' = s := by
      intro w s s' o qw hw e
      by_cases hn : isNul w = true
      · rw [if_pos hn] at e
        cases e
        rfl
      · rw [if_neg hn] at e
        have hq : quiet w = true := by
          rcases Bool.or_eq_true_iff.mp qw with z | z
          · exact absurd z hn
          · exact z
        cases h2 : evX gc cf w false s with
        | no => rw [h2] at e; cases e
        | ok t s2 =>
          have := hw hq h2
          rw [h2] at e
          cases t <;> first | (cases e; done) | (cases e; exact this)
    have h2 := part ql (fun q => quiet_same lo q) e3
    subst h2
    have h3 := part qh (fun q => quiet_same hi q) e5
    subst h3
    exact of_same e6
  | .bl _, _, _, _, _, q, _ | .mv _, _, _, _, _, q, _ | .nul, _, _, _, _, q, _ | .lst _, _, _, _, _, q, _ | .shd _, _, _, _, _, q, _ | .bin _ _ _, _, _, _, _, q, _ | .neg _, _, _, _, _, q, _ | .chain _ _ _ _ _, _, _, _, _, q, _
  | .and_ _ _, _, _, _, _, q, _ | .or_ _ _, _, _, _, _, q, _ | .not_ _, _, _, _, _, q, _ | .ite _ _ _, _, _, _, _, q, _ | .rev _, _, _, _, _, q, _ | .stp _ _ _, _, _, _, _, q, _ | .call _ _, _, _, _, _, q, _ | .bi _ _, _, _, _, _, q, _
  | .pop _, _, _, _, _, q, _ | .comp _ _ _ _ _ _, _, _, _, _, q, _ | .bad, _, _, _, _, q, _ | .disp _ _ _, _, _, _, _, q, _ | .callK _ _ _, _, _, _, _, q, _ | .orV _ _, _, _, _, _, q, _ | .fld _ _, _, _, _, _, q, _ | .isC _ _, _, _, _, _, q, _
  | .make _ _, _, _, _, _, q, _ | .callP _ _ _ _, _, _, _, _, q, _ | .dsp _, _, _, _, _, q, _ | .meth _ _ _, _, _, _, _, q, _ | .popAt _ _, _, _, _, _, q, _ | .cmpO _ _ _, _, _, _, _, q, _ | .biO _ _, _, _, _, _, q, _ | .mcall _ _ _ _ _, _, _, _, _, q, _ | .compO _ _ _ _ _, _, _, _, _, q, _ | .dspN _, _, _, _, _, q, _ | .isE _, _, _, _, _, q, _ | .dcomp _ _ _ _ _, _, _, _, _, q, _ => nomatch q
theorem quiets_same : ∀ (es : List Ex) {s s' : Sta} {ts : List Tr}, quiet.quiets es = true → evEs gc cf es s = .ok ts s' → s' = s
  | [], s, s', ts, _, h => by simp only [evEs] at h; cases h; rfl
  | e :: es, s, s', ts, q, h => by
    obtain ⟨q1, q2⟩ := and2 q
    simp only [evEs] at h
    obtain ⟨t, s1, e1, g1⟩ := Rs.bind_eq h
    obtain ⟨us, s2, e2, g2⟩ := Rs.bind_eq g1
    have h1 := quiet_same e q1 e1
    have h2 := quiets_same es q2 e2
    cases g2
    exact h2.trans h1
end
variable (gc cf) in
noncomputable def RIO (K : Mx) (a : Ex) : TI := fun σ H R => ∃ F G θ s n l s1, Rel K F G θ s σ H ∧ evX gc cf a false s = .ok (.ob n) s1 ∧ s1.mem[n]? = some (.lst l) ∧
  ∀ J H' F' θ' b, Rel K F' G θ' s1 σ H' → FLe F F' → θ <+: θ' → θ'[n]? = some b → Walk J l.length (fun H => ∃ xs, SqL K.K H b xs ∧ xs.length = l.length) (fun i H x H' => H' = H ∧ ∀ xs, SqL K.K H b xs → xs[i]? = some x) → R J H'
theorem sIO {a : Ex} {tge iter : Expr} (pe : PE X iter (RE gc cf (MX D.cl X) a)) : PI X tge iter (RIO gc cf (MX D.cl X) a) := by
  refine ⟨fun pins s0 σ H R0 I q => ?_⟩
  obtain ⟨F, G, θ, s, n, l, s1, R, e, hm, kk⟩ := q
  refine (pi_list (tg := tge) pe).run pins s0 σ H R0 I ⟨F, G, θ, s, _, s1, R, e, fun v H1 F1 θ1 R1 l1 p1 r1 => ?_⟩
  have r' : Rp (MX D.cl X) F1 θ1 (.ob n) v := r1
  cases r' with
  | ob e' =>
    rename_i b
    obtain ⟨b', h1, _, _, o, ho, rb⟩ := R1.m.ob n _ hm (fun z => nomatch z)
    rw [e'] at h1
    cases h1
    obtain ⟨xs, rfl, _⟩ := rb
    refine ⟨b, rfl, ⟨xs, SqL.of ho⟩, kk _ H1 F1 θ1 b R1 l1 p1 e' ⟨fun i H' hi q => ?_, fun H' q => ?_, fun i H' x H'' hi q y => y⟩⟩
    · obtain ⟨ys, q1, q2⟩ := q
      exact ⟨ys, ys[i]'(by rw [q2]; exact hi), q1, by simp⟩
    · obtain ⟨ys, q1, q2⟩ := q
      exact ⟨ys, q1, by rw [q2]; exact Nat.le_refl _⟩
theorem compReadO {K : Mx} {elt cond a : Ex} {tg : Tg} {own : List Nat} {tt : TT} (hin : tgIn own tg = true)
    (hC2 : ∀ {σ : L2.St} {H : Hp} {Q : Bool → Hp → Prop} {F G : Hp} {θ : List Addr} {s : Sta} {b : Bool} {s' : Sta}, Rel K F G θ s σ H → (if isNul cond then .ok (.bl true) s else evX gc cf cond true s) = .ok (.bl b) s' → (∀ H' F' θ', Rel K F' G θ' s' σ H' → FLe F F' → θ <+: θ' → Q b H') → tt σ H Q)
    {σ : L2.St} {H : Hp} {Q : VK} (hh : RE gc cf K (.compO elt tg a cond own) σ H Q) : tLc (RIO gc cf K a) (RG K tg) tt (RE gc cf K elt) own σ H Q := by
  obtain ⟨F, G, θ, s, t, s', R, ev, kk⟩ := hh
  simp only [evX, fin] at ev
  have ev0 := Rs.bind_eq ev
  clear ev
  obtain ⟨x1, s1, e1, ev⟩ := ev0
  obtain ⟨n, rfl⟩ : ∃ n, x1 = .ob n := by
    cases x1 with
    | ob n => exact ⟨n, rfl⟩
    | _ => cases ev
  dsimp only at ev
  obtain ⟨l, hmem⟩ : ∃ l, s1.mem[n]? = some (.lst l) := by
    cases hm : s1.mem[n]? with
    | none => rw [hm] at ev; cases ev
    | some ob =>
      rw [hm] at ev
      cases ob with
      | lst l => exact ⟨l, rfl⟩
      | _ => cases ev
  rw [hmem] at ev
  dsimp only at ev
  by_cases hq : (quiet elt && (isNul cond || quiet cond)) = true
  rotate_left
  · rw [if_neg hq] at ev
    cases ev
  rw [if_pos hq] at ev
  obtain ⟨q1, q2⟩ := and2 hq
  have cnd_same : ∀ {s s' : Sta} {t : Tr}, (if isNul cond = true then Rs.ok (.bl true) s else evX gc cf cond true s) = .ok t s' → s' = s := by
    intro s s' t e
    by_cases hn : isNul cond = true
    · rw [if_pos hn] at e
      cases e
      rfl
    · rw [if_neg hn] at e
      refine quiet_same cond ?_ e
      rcases Bool.or_eq_true_iff.mp q2 with z | z
      · exact absurd z hn
      · exact z
  cases ec : compGo (compF tg (wipeE (s1.env.map Slot.lock) own) (fun s => if isNul cond then .ok (.bl true) s else evX gc cf cond true s) (fun s => evX gc cf elt false s)) l s1.mem [] with
  | none => rw [ec] at ev; cases ev
  | some r =>
    obtain ⟨ys, mf⟩ := r
    rw [ec] at ev
    cases ev
    refine ⟨F, G, θ, s, n, l, s1, R, e1, hmem, fun J H1 F1 θ1 b R1 l1 p1 eb wk => fun Da nD => ?_⟩
    have gD : ownG s1 σ G H1 Da = none := R1.out.gle.none nD
    have rep : ∀ {F' G' : Hp} {θ' : List Addr} {H' : Hp}, RelM K F' G' θ' s1.mem H' → θ1 <+: θ' → ∃ xs, SqL K.K H' b xs ∧ Rps K F' θ' l xs := by
      intro F' G' θ' H' M p'
      obtain ⟨b', h1, _, _, o, ho, rb⟩ := M.ob n _ hmem (fun z => nomatch z)
      rw [pre_get p' eb] at h1
      cases h1
      obtain ⟨xs, rfl, rr⟩ := rb
      exact ⟨xs, SqL.of ho, rr⟩
    refine lc_it wk (fun i H' => ∃ F' θ' acc av, RelM K F' (ownG s1 σ G H1) θ' s1.mem H' ∧ FLe F1 F' ∧ θ1 <+: θ' ∧ H' Da = some (.lst av) ∧ Rps K F' θ' acc av ∧ F' Da = none ∧ Da ∉ θ' ∧
      compGo (compF tg (wipeE (s1.env.map Slot.lock) own) (fun s => if isNul cond then .ok (.bl true) s else evX gc cf cond true s) (fun s => evX gc cf elt false s)) (l.drop i) s1.mem acc = some (ys, mf)) ?_ ?_ ?_ ?_
    · exact ⟨F1, θ1, [], [], R1.out.junk nD, FLe.refl _, List.prefix_refl _, upd_same, .nil, R1.m.fle.none nD, R1.m.noTh nD, ec⟩
    · rintro i H' _ ⟨F', θ', acc, av, M, l', p', _⟩
      obtain ⟨xs, h1, h2⟩ := rep M p'
      exact ⟨xs, h1, h2.length⟩
    · rintro i x H' H'' hlt ⟨F', θ', acc, av, M, l', p', hD, ra, fD, tD, eg⟩ ⟨rfl, hy⟩
      obtain ⟨xs, h1, h2⟩ := rep M p'
      obtain ⟨t, ht, rt⟩ := h2.get' (hy xs h1)
      have ed : l.drop i = t :: l.drop (i + 1) := by
        obtain ⟨g1, g2⟩ := List.getElem?_eq_some_iff.mp ht
        rw [List.drop_eq_getElem_cons g1, g2]
      rw [ed] at eg
      simp only [compGo] at eg
      have M2 := M.guard hD fD tD
      cases ef : compF tg (wipeE (s1.env.map Slot.lock) own) (fun s => if isNul cond then .ok (.bl true) s else evX gc cf cond true s) (fun s => evX gc cf elt false s) t s1.mem with
      | none => rw [ef] at eg; cases eg
      | some r =>
        rw [ef] at eg
        obtain ⟨env1, s2, ea, hcase⟩ := compF_eq ef
        have RB := R1.block (own := own) M2 l' p' (FLe.upd1 gD)
        refine ⟨F', _, θ', _, s1.mem, t, env1, RB, rt, ea, fun σ2 R2 hw => ⟨(hw own hin).trans wipe_wipe, ?_⟩⟩
        rcases hcase with ⟨ecnd, y, s3, eel, py, rfl⟩ | ⟨ecnd, rfl⟩ <;> dsimp only at eg
        · have m2 := cnd_same ecnd
          have m3 := quiet_same elt q1 eel
          refine hC2 R2 ecnd fun H3 F3 θ3 R3 l3 p3 => ?_
          rw [if_pos rfl]
          refine ⟨F3, _, θ3, s2, y, s3, R3, eel, fun v H4 F4 θ4 R4 l4 p4 r4 => ?_⟩
          have hD4 : H4 Da = some (.lst av) := R4.m.gle Da _ upd_same
          have lF4 : FLe F' F4 := l3.trans l4
          have pθ4 : θ' <+: θ4 := p3.trans p4
          have em : s3.mem = s1.mem := by rw [m3, m2]
          split at eg
          · rename_i hsz
            have M4 : RelM K F4 (ownG s1 σ G H1) θ4 s3.mem (upd H4 Da (.lst (av ++ [v]))) := R4.m.unguard gD
            rw [em] at M4 eg
            refine ⟨av, hD4, by rw [ra.length]; exact hsz, F4, θ4, acc ++ [y], av ++ [v], M4, l'.trans lF4, p'.trans pθ4, upd_same, (ra.mono lF4 pθ4).append (.cons (r4.rp py) .nil), R4.m.fg Da _ upd_same, R4.m.gth (a := Da) upd_same, eg⟩
          · cases eg
        · have m2 := cnd_same ecnd
          have em : s2.mem = s1.mem := by rw [m2]
          refine hC2 R2 ecnd fun H3 F3 θ3 R3 l3 p3 => ?_
          rw [if_neg Bool.false_ne_true]
          have M3 := R3.m.letgo gD
          rw [em] at M3 eg
          exact ⟨F3, θ3, acc, av, M3, l'.trans l3, p'.trans p3, R3.m.gle Da _ upd_same, ra.mono l3 p3, R3.m.fg Da _ upd_same, R3.m.gth (a := Da) upd_same, eg⟩
    · rintro H' ⟨F', θ', acc, av, M, l', p', hD, ra, fD, tD, eg⟩
      rw [List.drop_length] at eg
      simp only [compGo] at eg
      cases eg
      have B := R1.back M l' p'
      refine kk _ H' _ θ' (B.fix hD fD (R1.m.gle.none nD) tD fun i l e z => ?_) (l1.trans (l'.trans (FLe.upd1 fD))) (p1.trans p') (RpV.of (.lst upd_same (ra.mono (FLe.upd1 fD) (List.prefix_refl _))))
      obtain ⟨zs, q, _⟩ := R1.ownAt e z
      rw [nD] at q
      cases q
theorem sCompO {sc : Scope} (C : Cxt D gc cf X sc) {elt cond a : Ex} {tg : Tg} {own : List Nat} {e' tg' iter : Expr} {ifs : List Expr} {scope : Scope} {pos : Pos} {tt : TT} (pe : PE X iter (RE gc cf (MX D.cl X) a)) (hb : blkC X.N sc scope (own.map fun i => (X.N.getD i "", i)) = true)
    (hS : isSetE iter = false) (hin : tgIn own tg = true) (hE : ∀ X' : Cx, Cxt D gc cf X' scope → X'.N = X.N → MX D.cl X' = MX D.cl X → Snd D gc cf X' elt e') (hT : chkT X.N scope tg tg' = true)
    (hC1 : ∀ X' : Cx, Cxt D gc cf X' scope → X'.N = X.N → MX D.cl X' = MX D.cl X → PTs X' ifs tt)
    (hC2 : ∀ {σ : L2.St} {H : Hp} {Q : Bool → Hp → Prop} {F G : Hp} {θ : List Addr} {s : Sta} {b : Bool} {s' : Sta}, Rel (MX D.cl X) F G θ s σ H → (if isNul cond then .ok (.bl true) s else evX gc cf cond true s) = .ok (.bl b) s' → (∀ H' F' θ', Rel (MX D.cl X) F' G θ' s' σ H' → FLe F F' → θ <+: θ' → Q b H') → tt σ H Q) :
    Snd D gc cf X (.compO elt tg a cond own) (.ListComp e' [⟨tg', iter, ifs, 0⟩] scope pos) :=
  sCompW (cond := cond) C (sIO pe) hb hS hE hT hC1 (fun hh => compReadO hin hC2 hh) (fun s => by simp only [evX, fin])
/-! d == {} -/
theorem sIsE {sc : Scope} (C : Cxt D gc cf X sc) {a : Ex} {x : Expr} {pos q : Pos} (ha : PE X x (RE gc cf (MX D.cl X) a)) : Snd D gc cf X (.isE a) (.Compare x [.Eq] [.Dict [] [] q] pos) := by
  have main : ∀ {s s' : Sta} {t : Tr}, evX gc cf (.isE a) false s = .ok t s' → ∃ x1 n, evX gc cf a false s = .ok x1 s' ∧ ((∃ ks l, s'.deref x1 = .dk ks l ∧ n = ks.length) ∨ ∃ ks l, s'.deref x1 = .dt ks l ∧ n = ks.length) ∧ t = .bl (decide (n = 0)) := by
    intro s s' t ev
    simp only [evX, fin] at ev
    obtain ⟨x1, s1, e1, ev⟩ := Rs.bind_eq ev
    cases ed : s1.deref x1 with
    | dk ks l =>
      rw [ed] at ev
      cases ev
      exact ⟨x1, _, e1, .inl ⟨ks, l, ed, rfl⟩, by cases ks <;> rfl⟩
    | dt ks l =>
      rw [ed] at ev
      cases ev
      exact ⟨x1, _, e1, .inr ⟨ks, l, ed, rfl⟩, by cases ks <;> rfl⟩
    | _ => rw [ed] at ev; cases ev
  have len : ∀ {F G H : Hp} {θ : List Addr} {s : Sta} {σ : L2.St} {v : V} {x1 : Tr} {n : Nat}, Rel (MX D.cl X) F G θ s σ H → RpV (MX D.cl X) F θ σ x1 v → ((∃ ks l, s.deref x1 = .dk ks l ∧ n = ks.length) ∨ ∃ ks l, s.deref x1 = .dt ks l ∧ n = ks.length) → ∃ p, v = .ref p ∧ DLen X.prog X.w H p n := by
    intro F G H θ s σ v x1 n R r hn
    rcases hn with ⟨ks, l, ed, rfl⟩ | ⟨ks, l, ed, rfl⟩
    · have r' := R.read r (by rw [ed]; rfl)
      rw [ed] at r'
      obtain ⟨p, kvs, rfl, e1, rfl, _⟩ := r'
      exact ⟨p, rfl, .inl ⟨kvs, e1, by rw [List.length_map]⟩⟩
    · have r' := R.read r (by rw [ed]; rfl)
      rw [ed] at r'
      obtain ⟨p, kvs, rfl, e1, rfl, _⟩ := r'
      exact ⟨p, rfl, .inr ⟨kvs, e1, by rw [List.length_map]⟩⟩
  have old : ∀ {H : Hp} {p b : Addr} {n : Nat} {o : HO}, H b = none → DLen X.prog X.w H p n → DLen X.prog X.w (upd H b o) p n := by
    intro H p b n o hb d
    rcases d with ⟨kvs, e, h⟩ | ⟨kvs, e, h⟩
    · exact .inl ⟨kvs, by rw [upd_ne (ne_of_none e hb)]; exact e, h⟩
    · exact .inr ⟨kvs, by rw [upd_ne (ne_of_none e hb)]; exact e, h⟩
  refine ⟨⟨fun pins s0 σ H Q I h => ?_⟩, ⟨fun pins s0 σ H Q I h => ?_⟩, fun z => nomatch z⟩
  · obtain ⟨F, G, θ, s, t, s', R, ev, k⟩ := h
    obtain ⟨x1, n, e1, hn, rfl⟩ := main ev
    refine (pe_cmpR (op_eqNone C.u64) ha pe_dnewK rfl).run pins s0 σ H Q I ⟨F, G, θ, s, x1, s', R, e1, fun v H1 F1 θ1 R1 l1 p1 r1 b nb => ?_⟩
    obtain ⟨p, rfl, d⟩ := len R1 r1 hn
    exact ⟨p, b, n, rfl, rfl, old nb d, upd_same, k _ _ F1 θ1 (R1.junk nb) l1 p1 (RpV.of (.bl _))⟩
  · obtain ⟨F, G, θ, s, b0, s', R, ev, k⟩ := h
    have ev' : fin true (evX gc cf (.isE a) false s) = .ok (.bl b0) s' := by
      simp only [evX, fin] at ev ⊢
      exact ev
    obtain ⟨x, h1, h2⟩ := fin_bl ev'
    obtain ⟨x1, n, e1, hn, rfl⟩ := main h1
    cases h2
    refine (pt_cmpR (op_eqNone C.u64) ha pe_dnewK rfl).run pins s0 σ H Q I ⟨F, G, θ, s, x1, s', R, e1, fun v H1 F1 θ1 R1 l1 p1 r1 b nb => ?_⟩
    obtain ⟨p, rfl, d⟩ := len R1 r1 hn
    exact ⟨p, b, n, rfl, rfl, old nb d, upd_same, _, rfl, k _ F1 θ1 (R1.junk nb) l1 p1⟩
/-! comprehensions of dicts -/
theorem dcompRead {kx vx a : Ex} {tg : Tg} {own : List Nat} (hin : tgIn own tg = true) {σ : L2.St} {H : Hp} {Q : VK} (hh : RE gc cf (MX D.cl X) (.dcomp kx vx tg a own) σ H Q) : tDt X (RIO gc cf (MX D.cl X) a) (RG (MX D.cl X) tg) (RE gc cf (MX D.cl X) kx) (RE gc cf (MX D.cl X) vx) own σ H Q := by
  obtain ⟨F, G, θ, s, t, s', R, ev, kk⟩ := hh
  simp only [evX, fin] at ev
  have ev0 := Rs.bind_eq ev
  clear ev
  obtain ⟨x1, s1, e1, ev⟩ := ev0
  obtain ⟨n, rfl⟩ : ∃ n, x1 = .ob n := by
    cases x1 with
    | ob n => exact ⟨n, rfl⟩
    | _ => cases ev
  dsimp only at ev
  obtain ⟨l, hmem⟩ : ∃ l, s1.mem[n]? = some (.lst l) := by
    cases hm : s1.mem[n]? with
    | none => rw [hm] at ev; cases ev
    | some ob =>
      rw [hm] at ev
      cases ob with
      | lst l => exact ⟨l, rfl⟩
      | _ => cases ev
  rw [hmem] at ev
  dsimp only at ev
  by_cases hq : (quiet kx && quiet vx) = true
  rotate_left
  · rw [if_neg hq] at ev
    cases ev
  rw [if_pos hq] at ev
  obtain ⟨q1, q2⟩ := and2 hq
  generalize hf : dcF tg (wipeE (s1.env.map Slot.lock) own) s1.mem (fun s => evX gc cf kx false s) (fun s => evX gc cf vx false s) = f at ev
  cases ec : dcGo f l [] [] with
  | none => rw [ec] at ev; cases ev
  | some r =>
    rw [ec] at ev
    cases ev
    refine ⟨F, G, θ, s, n, l, s', R, e1, hmem, fun J H1 F1 θ1 b R1 l1 p1 eb wk => fun Da nD => ?_⟩
    have gD : ownG s' σ G H1 Da = none := R1.out.gle.none nD
    have rep : ∀ {F' G' : Hp} {θ' : List Addr} {H' : Hp}, RelM (MX D.cl X) F' G' θ' s'.mem H' → θ1 <+: θ' → ∃ xs, SqL X.K H' b xs ∧ Rps (MX D.cl X) F' θ' l xs := by
      intro F' G' θ' H' M p'
      obtain ⟨b', h1, _, _, o, ho, rb⟩ := M.ob n _ hmem (fun z => nomatch z)
      rw [pre_get p' eb] at h1
      cases h1
      obtain ⟨xs, rfl, rr⟩ := rb
      exact ⟨xs, SqL.of ho, rr⟩
    refine ⟨fun i m H' => m = l.length - i ∧ i ≤ l.length ∧ ∃ F' θ' kvs vs, RelM (MX D.cl X) F' (ownG s' σ G H1) θ' s'.mem H' ∧ FLe F1 F' ∧ θ1 <+: θ' ∧ H' Da = some (dtO X.prog X.w Da kvs) ∧ Rps (MX D.cl X) F' θ' vs (kvs.map (·.2.2)) ∧ (∀ p ∈ kvs, SqT X.K F' p.2.1 (p.1.map kV)) ∧ F' Da = none ∧ Da ∉ θ' ∧ dcGo f (l.drop i) (kvs.map (·.1)) vs = some r, ?_, ?_⟩
    · exact ⟨l.length, by simp, Nat.zero_le _, F1, θ1, [], [], R1.out.junk nD, FLe.refl _, List.prefix_refl _, upd_same, .nil, (fun p hp => nomatch hp), R1.m.fle.none nD, R1.m.noTh nD, ec⟩
    · rintro i m H' ⟨rfl, hi, F', θ', kvs, vs, M, l', p', hD, ra, ka, fD, tD, eg⟩
      obtain ⟨xs, h1, h2⟩ := rep M p'
      by_cases hlt : i < l.length
      · have hG : ∃ xs, SqL X.K H' b xs ∧ xs.length = l.length := ⟨xs, h1, h2.length⟩
        refine .inr ⟨wk.goes i H' hlt hG, fun H'' => i + 1 ≤ l.length ∧ ∃ F' θ' kvs vs, RelM (MX D.cl X) F' (ownG s' σ G H1) θ' s'.mem H'' ∧ FLe F1 F' ∧ θ1 <+: θ' ∧ H'' Da = some (dtO X.prog X.w Da kvs) ∧ Rps (MX D.cl X) F' θ' vs (kvs.map (·.2.2)) ∧ (∀ p ∈ kvs, SqT X.K F' p.2.1 (p.1.map kV)) ∧ F' Da = none ∧ Da ∉ θ' ∧ dcGo f (l.drop (i + 1)) (kvs.map (·.1)) vs = some r,
          fun H'' w => ⟨l.length - (i + 1), by omega, rfl, w⟩, fun x H'' y => ?_⟩
        obtain ⟨rfl, hy⟩ := wk.yields i H' x H'' hlt hG y
        obtain ⟨t, ht, rt⟩ := h2.get' (hy xs h1)
        have ed : l.drop i = t :: l.drop (i + 1) := by
          obtain ⟨g1, g2⟩ := List.getElem?_eq_some_iff.mp ht
          rw [List.drop_eq_getElem_cons g1, g2]
        rw [ed] at eg
        simp only [dcGo] at eg
        have M2 := M.guard hD fD tD
        cases ef : f t with
        | none => rw [ef] at eg; cases eg
        | some kz =>
          obtain ⟨k, z⟩ := kz
          rw [ef] at eg
          dsimp only at eg
          by_cases hsz : (kvs.map (·.1)).length < sizeLine
          rotate_left
          · rw [if_neg hsz] at eg; cases eg
          rw [if_pos hsz] at eg
          rw [← hf] at ef
          unfold dcF at ef
          cases ea : asg tg t (wipeE (s'.env.map Slot.lock) own) with
          | none => rw [ea] at ef; cases ef
          | some env1 =>
            rw [ea] at ef
            dsimp only at ef
            cases ek : evX gc cf kx false ⟨env1, s'.mem⟩ with
            | no => rw [ek] at ef; cases ef
            | ok yk s2 =>
              cases ez : evX gc cf vx false ⟨env1, s'.mem⟩ with
              | no => rw [ek, ez] at ef; cases yk <;> cases ef
              | ok zz s3 =>
                have m2 := quiet_same kx q1 ek
                have m3 := quiet_same vx q2 ez
                subst m2 m3
                rw [ek, ez] at ef
                obtain ⟨lk, rfl⟩ : ∃ lk, yk = .tup lk := by
                  cases yk with
                  | tup lk => exact ⟨lk, rfl⟩
                  | _ => cases ef
                dsimp only at ef
                by_cases pz : zz.pure = true
                rotate_left
                · rw [if_neg pz] at ef; cases ef
                rw [if_pos pz] at ef
                obtain ⟨k', ekk, e9⟩ := Option.map_eq_some_iff.mp ef
                cases e9
                have RB := R1.block (own := own) M2 l' p' (FLe.upd1 gD)
                refine ⟨F', _, θ', _, s'.mem, t, env1, RB, rt, ea, fun σ2 R2 hw => ⟨(hw own hin).trans wipe_wipe, ?_⟩⟩
                refine ⟨F', _, θ', _, _, _, R2, ek, fun v3 H3 F3 θ3 R3 l3 p3 r3 => ⟨F3, _, θ3, _, _, _, R3, ez, fun v4 H4 F4 θ4 R4 l4 p4 r4 => ?_⟩⟩
                have hD4 : H4 Da = some (dtO X.prog X.w Da kvs) := R4.m.gle Da _ upd_same
                have lF4 : FLe F' F4 := l3.trans l4
                have pθ4 : θ' <+: θ4 := p3.trans p4
                have rk := r3.rp rfl
                have rz := r4.rp pz
                cases rk with
                | @tup bk xsk _ hsk rsk =>
                  obtain rfl := keysT_ok R3.m.fle ekk rsk
                  have hb4 : SqT X.K F4 bk (k.map kV) := l4.tup hsk
                  obtain ⟨z1, z2, z3⟩ := putD_ok (K := MX D.cl X) (θ := θ4) rz hb4 (ra.mono lF4 pθ4) fun p hp => lF4.tup (ka p hp)
                  rw [List.length_map] at hsz
                  refine ⟨kvs, k, bk, rfl, R4.m.fle.tup hb4, hD4, fun p hp => R4.m.fle.tup (lF4.tup (ka p hp)), hsz, hlt, F4, θ4, _, _, R4.m.unguard gD, l'.trans lF4, p'.trans pθ4, upd_same, z2, z3, R4.m.fg Da _ upd_same, R4.m.gth (a := Da) upd_same, ?_⟩
                  rw [z1]
                  exact eg
      · have e : i = l.length := by omega
        subst e
        refine .inl ⟨wk.stops H' ⟨xs, h1, h2.length⟩, ?_⟩
        rw [List.drop_length] at eg
        simp only [dcGo] at eg
        cases eg
        have B := R1.back M l' p'
        refine kk _ H' _ θ' (B.fix hD fD (R1.m.gle.none nD) tD fun i l e z => ?_) (l1.trans (l'.trans (FLe.upd1 fD))) (p1.trans p') (RpV.of (.dt upd_same rfl (ra.mono (FLe.upd1 fD) (List.prefix_refl _)) fun p hp => (FLe.upd1 fD).tup (ka p hp)))
        obtain ⟨zs, q, _⟩ := R1.ownAt e z
        rw [nD] at q
        cases q
theorem sDcomp {sc : Scope} (C : Cxt D gc cf X sc) {kx vx a : Ex} {tg : Tg} {own : List Nat} {k' v' tg' iter : Expr} {scope : Scope} {pos : Pos} (pe : PE X iter (RE gc cf (MX D.cl X) a)) (hb : blkC X.N sc scope (own.map fun i => (X.N.getD i "", i)) = true) (hS : isSetE iter = false) (hin : tgIn own tg = true)
    (hK : ∀ X' : Cx, Cxt D gc cf X' scope → X'.N = X.N → MX D.cl X' = MX D.cl X → Snd D gc cf X' kx k') (hV : ∀ X' : Cx, Cxt D gc cf X' scope → X'.N = X.N → MX D.cl X' = MX D.cl X → Snd D gc cf X' vx v') (hT : chkT X.N scope tg tg' = true) :
    Snd D gc cf X (.dcomp kx vx tg a own) (.DictComp k' v' [⟨tg', iter, [], 0⟩] scope pos) := by
  have hs : ∀ x, foldedSetIterable iter X.env x = pure x := fun x => by cases iter <;> first | rfl | (exact nomatch hS)
  have P := pe_dt (g := RG (MX D.cl X) tg) (tk := RE gc cf (MX D.cl X) kx) (tv := RE gc cf (MX D.cl X) vx) (pos := pos) (by have := C.un; omega) C.calm C.nd (sIO pe) (C.blk _ _ hb)
    (fun s H Ca cl fp => sT (cl := D.cl) (X := X.blk s H scope (compEnvC scope cl Ca X.env) fp) C.nd C.calm (C.inBlk (scope := scope) s H Ca cl fp).loc tg tg' hT)
    (fun s H Ca cl fp => (hK _ (C.inBlk s H Ca cl fp) rfl rfl).pe) (fun s H Ca cl fp => (hV _ (C.inBlk s H Ca cl fp) rfl rfl).pe) hs
  have eo : (own.map fun i => (X.N.getD i "", i)).map (·.2) = own := by rw [List.map_map]; simp [Function.comp_def]
  rw [eo] at P
  exact Snd.mk1 ⟨fun pins s0 σ H Q I hh => P.run pins s0 σ H Q I (dcompRead hin hh)⟩ rfl (fun _ => rfl) (fun s => by simp only [evX, fin])
theorem prop_guards {A : Around} : A.in1.guards = A.guards := by
  first | rfl | simp [Around.in1, Around.under, Code.weight, Code.isCreation, Code.isGuard, Code.isCaller, Code.frames, Code.isFrame, guardIds]
/-- a property's getter at a frozen instance -/
noncomputable def tPG (C : Addr) (sp : Sp) (ta : TE) : TE := fun σ H Q => ta σ H fun x H1 => ∃ a dx fs, x = .ref a ∧ H1 a = some (.ins C dx fs) ∧ sp [x] H1 Q E0
theorem pe_propG {k : Nat} {f C p : Addr} {fd : FuncData} {ps : List Str} {sp : Sp} {m : Str} {e : Expr} {pos : Pos} {ta : TE} (he : PE X e ta) (c : Cls X.K C) (hp : PropOf X.K C m p f) (F : FnG X.prog X.w X.K X.mg X.base k f fd ps sp) (hr : Room (k + 1) X.A) (hgd : X.A.guards = some []) (hb : Binds X.K fd ps [])
    (hab : attributeBase e m X.env (eval e X.env) = eval e X.env) : PE X (.Attribute e m pos) (tPG C sp ta) := by
  refine ⟨fun pins s0 σ H Q I0 hh => attr_of hab (thn (he.run pins s0 σ H _ I0 hh) fun u s z => ?_)⟩
  obtain ⟨x, H1, I, rx, a, dx, fs, rfl, ea, q⟩ := z
  obtain rfl : u = Value.ref a := rx
  obtain ⟨mA, O, _⟩ := ins_get I.hok ea
  obtain ⟨od, J, _⟩ := O.look
  obtain ⟨more, hrec⟩ := hp.rec_
  have IT := I.tok (s.toks + 1)
  have hl : ([Value.ref a] ++ []).length = ps.length := (F.len _ _ _ _ q)
  have hcd : (PySem.W.clsIn X.K C).isSome = true := by
    obtain ⟨cd, e9, _⟩ := PySem.W.any_some c.hd
    rw [e9]; rfl
  have hbt := hb { s with toks := s.toks + 1 } [.ref a] IT.kIn hl
  refine PySem.W.get_bind I.kIn J (PySem.W.plainGet_of (c.get m)).1 (PySem.W.findObj_data hcd hp.at_ hp.get hp.tak) (PySem.W.plainGet_of (c.get m)).2 (wpAny_call (PySem.W.prop_get (s := { s with toks := s.toks + 1 }) I.kIn hrec (codeAny_mono (F.run X.A.in1 X.stack { s with toks := s.toks + 1 } H1 ⟨[.ref a], []⟩ [.ref a] [.ref a] Q E0 hr.in1 (prop_guards.trans hgd) IT.env0.in1 hbt (.cons rfl .nil) q) fun r s' hq => ?_)))
  cases r with
  | error er => exact False.elim hq
  | ok fl =>
    cases fl with
    | ret w =>
      obtain ⟨v, H', I3, rv, q3⟩ := IT.after hq
      show wpAny _ _ (handedOut w) _ _ _
      rw [PySem.W.handedOut_of (handed_of rv)]
      exact wpAny_pure ⟨v, H', I3, rv, q3⟩
    | _ => exact False.elim hq
/-- x == y by the own __eq__ -/
theorem op_eqOwn {k : Nat} {f C : Addr} {fd : FuncData} {ps : List Str} {sp : Sp} (hm : Meth X.K C "__eq__" f) (F : FnG X.prog X.w X.K X.mg X.base k f fd ps sp) (hr : Room k X.A) (hgd : X.A.guards = some []) (hb : Binds X.K fd ps []) (hu : X.A.units < cLine) :
    OpR X (compareOp .Eq) (fun x y H Q => ∃ a b dx dy fs gs, x = .ref a ∧ y = .ref b ∧ H a = some (.ins C dx fs) ∧ H b = some (.ins C dy gs) ∧ sp [x, y] H (fun v H' => (∃ r, v = .bl r) ∧ Q v H') E0) := by
  intro pins s σ H x y v u Q I rx ry h
  obtain ⟨a, b, dx, dy, fs, gs, rfl, rfl, ha, hb', q⟩ := h
  obtain rfl : v = Value.ref a := rx
  obtain rfl : u = Value.ref b := ry
  obtain ⟨mA, J, _⟩ := ins_get I.hok ha
  obtain ⟨mB, J', _⟩ := ins_get I.hok hb'
  obtain ⟨od, J, _⟩ := J.look
  obtain ⟨od', J', _⟩ := J'.look
  obtain ⟨m, hF⟩ := I.fr
  show wpAny (model X.prog X.w) X.A (richCompare .Eq (.ref a) (.ref b)) (EP X pins σ Q) X.xe s
  refine PySem.W.cmp_K (op := .Eq) (tb := .ref C) hu hF I.ok.mod.kin J J'.type (by simp [PySem.W.notFirst]) hm.at_ hm.fn ?_
  refine wpAny_mono (run_fnG (us := [.ref a, .ref b]) (vs := [.ref a, .ref b]) F hr hgd hb I (.cons rfl (.cons rfl .nil)) q) (fun w s' z => ?_) fun _ _ z => z
  obtain ⟨v, H', I', rv, ⟨r, rfl⟩, q'⟩ := z
  obtain rfl : w = Value.bool r := rv
  exact ⟨.bl r, H', I', rfl, q'⟩
theorem sProp {sc : Scope} (C : Cxt D gc cf X sc) {c m : Str} {f : Nat} {a : Ex} {x : Expr} {pos : Pos} (hf : D.prs.lookup f = some (c, m)) (hx : isCall x = false) (ha : PE X x (RE gc cf (MX D.cl X) a)) : Snd D gc cf X (.prop c m f a) (.Attribute x m pos) := by
  refine Snd.mk1 ⟨fun pins s0 σ H Q I hh => ?_⟩ rfl (fun _ => rfl) (fun s => by simp only [evX, fin])
  obtain ⟨F, G, θ, s, t, s', R, ev, k⟩ := hh
  simp only [evX, fin] at ev
  obtain ⟨x1, s1, e1, ev1⟩ := Rs.bind_eq ev
  clear ev
  have ev := ev1
  clear ev1
  obtain ⟨c', ns, l, rfl⟩ : ∃ c' ns l, x1 = .ins c' ns l := by
    cases x1 with
    | ins c' ns l => exact ⟨c', ns, l, rfl⟩
    | _ => cases ev
  dsimp only at ev
  by_cases hc : c' = c
  rotate_left
  · rw [if_neg hc] at ev; cases ev
  rw [if_pos hc] at ev
  subst hc
  obtain ⟨t', m', e3⟩ : ∃ t' m', cf f [.ins c' ns l] s1.mem = some (t', m') := by
    cases hc2 : cf f [.ins c' ns l] s1.mem with
    | none => rw [hc2] at ev; cases ev
    | some r => exact ⟨r.1, r.2, rfl⟩
  rw [e3] at ev
  cases ev
  obtain ⟨C0, p0, fa, fd, ps, kk, hcl, hmg, hM, hb, hr, hF, hlen⟩ := C.prF f _ m hf _ s1.mem _ e3
  obtain ⟨C1, hmg1, hcf⟩ := C.cls _ hcl
  rw [hmg] at hmg1
  cases hmg1
  refine (pe_propG ha hcf.cl hM hF hr C.gd hb.binds (attrBase hx)).run pins s0 σ H Q I ⟨F, G, θ, s, _, s1, R, e1, fun v H1 F1 θ1 R1 l1 p1 r1 => ?_⟩
  have r' : Rp (MX D.cl X) F1 θ1 (.ins c' ns l) v := r1
  have rr := r'
  cases r' with
  | ins h1 h2 h3 h4 h5 =>
    rename_i a9 C9 dx fs
    have h3' : X.mg c' = some (.ref C9) := h3
    rw [hmg] at h3'
    cases h3'
    refine ⟨_, dx, fs, rfl, R1.m.fle _ _ h1, by simpa using hlen, F1, ownG s1 σ G H1, θ1, _, s1.mem, _, m', R1.out, .cons rr .nil, e3, fun u H' F' θ' M l' p' ru => ?_⟩
    exact k u H' F' θ' (R1.back M l' p') (l1.trans l') (p1.trans p') (RpV.of ru)
theorem sEqV {sc : Scope} (C : Cxt D gc cf X sc) {c : Str} {f : Nat} {a b : Ex} {x y : Expr} {pos : Pos} (hf : D.mts.lookup f = some (c, ("__eq__" : Str))) (ha : PE X x (RE gc cf (MX D.cl X) a)) (hb : PE X y (RE gc cf (MX D.cl X) b)) (hm : behindInMarks .Eq y = false) : Snd D gc cf X (.eqV c f a b) (.Compare x [.Eq] [y] pos) := by
  have main : ∀ {s s' : Sta} {t : Tr}, evX gc cf (.eqV c f a b) false s = .ok t s' → ∃ n1 l1 n2 l2 s1 s2 r m', evX gc cf a false s = .ok (.ins c n1 l1) s1 ∧ evX gc cf b false s1 = .ok (.ins c n2 l2) s2 ∧ cf f [.ins c n1 l1, .ins c n2 l2] s2.mem = some (.bl r, m') ∧ s' = ⟨s2.env, m'⟩ ∧ t = .bl r := by
    intro s s' t ev
    simp only [evX, fin] at ev
    obtain ⟨x1, s1, e1, ev1⟩ := Rs.bind_eq ev
    clear ev
    obtain ⟨y1, s2, e2, ev⟩ := Rs.bind_eq ev1
    clear ev1
    cases x1 with
    | ins c1 n1 l1 =>
      cases y1 with
      | ins c2 n2 l2 =>
        dsimp only at ev
        by_cases hc : c1 = c ∧ c2 = c
        · rw [if_pos hc] at ev
          obtain ⟨rfl, rfl⟩ := hc
          cases hc2 : cf f [.ins c2 n1 l1, .ins c2 n2 l2] s2.mem with
          | none => rw [hc2] at ev; cases ev
          | some r =>
            obtain ⟨t, m⟩ := r
            rw [hc2] at ev
            cases t with
            | bl r => cases ev; exact ⟨n1, l1, n2, l2, s1, s2, r, m, e1, e2, hc2, rfl, rfl⟩
            | _ => cases ev
        · rw [if_neg hc] at ev; cases ev
      | _ => cases ev
    | _ => cases ev
  have aux : ∀ {n1 n2 : List Str} {l1 l2 : List Tr} {m2 m' : List Ob} {r : Bool}, cf f [.ins c n1 l1, .ins c n2 l2] m2 = some (.bl r, m') → ∃ (C0 : Addr) (sp : Sp), OpR X (compareOp .Eq) (fun x y H Q => ∃ a b dx dy fs gs, x = .ref a ∧ y = .ref b ∧ H a = some (.ins C0 dx fs) ∧ H b = some (.ins C0 dy gs) ∧ sp [x, y] H (fun v H' => (∃ r, v = .bl r) ∧ Q v H') E0) ∧
      ∀ {F2 H2 : Hp} {G : Hp} {θ2 : List Addr} {s2 : Sta} {σ : L2.St} {v w : V} {Q : VK}, s2.mem = m2 → Rel (MX D.cl X) F2 G θ2 s2 σ H2 → Rp (MX D.cl X) F2 θ2 (.ins c n1 l1) v → Rp (MX D.cl X) F2 θ2 (.ins c n2 l2) w →
        (∀ H' F' θ', Rel (MX D.cl X) F' G θ' ⟨s2.env, m'⟩ σ H' → FLe F2 F' → θ2 <+: θ' → Q (.bl r) H') →
        ∃ a b dx dy fs gs, v = .ref a ∧ w = .ref b ∧ H2 a = some (.ins C0 dx fs) ∧ H2 b = some (.ins C0 dy gs) ∧ sp [v, w] H2 (fun v H' => (∃ r, v = .bl r) ∧ Q v H') E0 := by
    intro n1 n2 l1 l2 m2 m' r e3
    obtain ⟨C0, fa, fd, ps, kk, hcl, hmg, hM, hbd, hr, hF, hlen⟩ := C.mtF f _ _ hf _ m2 _ e3
    refine ⟨C0, _, op_eqOwn hM hF hr C.gd hbd.binds (by have := C.un; omega), fun {F2 H2 G θ2 s2 σ v w Q} hm2 R2 q1 q2 k => ?_⟩
    subst hm2
    have rr : Rps (MX D.cl X) F2 θ2 [.ins c n1 l1, .ins c n2 l2] [v, w] := .cons q1 (.cons q2 .nil)
    cases q1 with
    | ins h1 h2 h3 h4 h5 =>
      cases q2 with
      | ins g1 g2 g3 g4 g5 =>
        have h3' := h3
        have g3' := g3
        change X.mg c = _ at h3'
        change X.mg c = _ at g3'
        rw [hmg] at h3' g3'
        cases h3'
        cases g3'
        refine ⟨_, _, _, _, _, _, rfl, rfl, R2.m.fle _ _ h1, R2.m.fle _ _ g1, by simpa using hlen, F2, ownG s2 σ G H2, θ2, _, s2.mem, _, m', R2.out, rr, e3, fun u H' F' θ' M l' p' ru => ?_⟩
        cases ru with
        | bl _ => exact ⟨⟨r, rfl⟩, k H' F' θ' (R2.back M l' p') l' p'⟩
  refine ⟨⟨fun pins s0 σ H Q I h => ?_⟩, ⟨fun pins s0 σ H Q I h => ?_⟩, fun z => nomatch z⟩
  · obtain ⟨F, G, θ, s, t, s', R, ev, k⟩ := h
    obtain ⟨n1, l1, n2, l2, s1, s2, r, m', e1, e2, e3, rfl, rfl⟩ := main ev
    obtain ⟨C0, sp, hop, hk⟩ := aux e3
    exact (pe_cmpR hop ha hb hm).run pins s0 σ H Q I ⟨F, G, θ, s, _, s1, R, e1, fun v H1 F1 θ1 R1 l1 p1 r1 => ⟨F1, G, θ1, s1, _, s2, R1, e2, fun w H2 F2 θ2 R2 l2 p2 r2 =>
      hk rfl R2 ((show Rp (MX D.cl X) F1 θ1 _ v from r1).mono l2 p2) r2 fun H' F' θ' R' l' p' => k _ H' F' θ' R' (l1.trans (l2.trans l')) (p1.trans (p2.trans p')) (RpV.of (.bl r))⟩⟩
  · obtain ⟨F, G, θ, s, b0, s', R, ev, k⟩ := h
    have ev' : fin true (evX gc cf (.eqV c f a b) false s) = .ok (.bl b0) s' := by
      simp only [evX, fin] at ev ⊢
      exact ev
    obtain ⟨x, h1, h2⟩ := fin_bl ev'
    obtain ⟨n1, l1, n2, l2, s1, s2, r, m', e1, e2, e3, rfl, rfl⟩ := main h1
    cases h2
    obtain ⟨C0, sp, hop, hk⟩ := aux e3
    exact (pt_cmpR hop ha hb hm).run pins s0 σ H Q I ⟨F, G, θ, s, _, s1, R, e1, fun v H1 F1 θ1 R1 l1 p1 r1 => ⟨F1, G, θ1, s1, _, s2, R1, e2, fun w H2 F2 θ2 R2 l2 p2 r2 =>
      hk rfl R2 ((show Rp (MX D.cl X) F1 θ1 _ v from r1).mono l2 p2) r2 fun H' F' θ' R' l' p' => ⟨_, rfl, k H' F' θ' R' (l1.trans (l2.trans l')) (p1.trans (p2.trans p'))⟩⟩⟩
end
end Ev
/-! Soundness of expressions: the theorem. -/
namespace Ev
open PySem PySem.Spec L2
open PyProof.Rows hiding St
section
variable {D : Ds} {gc : Nat → Option Tr} {cf : CF} {K : Mx} {F F' G H : Hp} {θ θ' : List Addr} {s : Sta} {σ : St}
theorem sRev {X : Cx} {a : Ex} {x : Expr} {k : Nat} {p1 p2 p3 pos : Pos} (ha : PE X x (RE gc cf (MX D.cl X) a)) : Snd D gc cf X (.rev a) (.Subscript x (.Slice none none (some (.UnaryOp .USub (.Constant (.int 1) k p1) p2)) p3) pos) := by
  refine Snd.mk1 ⟨fun pins s0 σ H Q I hh => ?_⟩ rfl (fun _ => rfl) (fun s => by simp only [evX, fin])
  obtain ⟨F, G, θ, s, t, s', R, ev, kk⟩ := hh
  simp only [evX, fin] at ev
  obtain ⟨x1, s1, e1, ev⟩ := Rs.bind_eq ev
  split at ev
  · rename_i l e2
    cases ev
    refine (pe_revL ha).run pins s0 σ H Q I ⟨F, G, θ, s, x1, _, R, e1, fun v H1 F1 θ1 R1 l1 p1 r1 => ?_⟩
    have rr := R1.read r1 (by rw [e2]; rfl)
    rw [e2] at rr
    obtain ⟨a, xs, rfl, q, r⟩ := rr
    exact ⟨a, xs, rfl, SqL.of q, fun p np => Fin.lst (fun u H' F' R' l' r' => kk u H' F' θ1 R' (l1.trans l') p1 (RpV.of r')) R1 np r.reverse⟩
  · rename_i l e2
    cases ev
    refine (pe_revT ha).run pins s0 σ H Q I ⟨F, G, θ, s, x1, _, R, e1, fun v H1 F1 θ1 R1 l1 p1 r1 => ?_⟩
    have rr := R1.read r1 (by rw [e2]; rfl)
    rw [e2] at rr
    obtain ⟨a, xs, rfl, q, r, _⟩ := tupH rr R1.m.fle
    exact ⟨a, xs, rfl, q, fun p np => Fin.tup (fun u H' F' R' l' r' => kk u H' F' θ1 R' (l1.trans l') p1 (RpV.of r')) R1 np r.reverse⟩
  · cases ev
theorem Rps.half {K : Mx} {F : Hp} {θ : List Addr} : ∀ {ts : List Tr} {vs : List V}, Rps K F θ ts vs → Rps K F θ (halfT ts) (halfT vs)
  | _, _, .nil => .nil
  | _, _, .cons a .nil => .cons a .nil
  | _, _, .cons a (.cons b r) => .cons a (Rps.half r)
theorem Rps.dropN {K : Mx} {F : Hp} {θ : List Addr} : ∀ {ts : List Tr} {vs : List V} (n : Nat), Rps K F θ ts vs → Rps K F θ (ts.drop n) (vs.drop n)
  | _, _, 0, r => r
  | _, _, _ + 1, .nil => .nil
  | _, _, n + 1, .cons a r => Rps.dropN n r
theorem sStp {X : Cx} {a lo st : Ex} {x e : Expr} {l : Option Expr} {p2 pos : Pos} (ha : PE X x (RE gc cf (MX D.cl X) a)) (hl : PO X l (RO gc cf (MX D.cl X) lo)) (hs : PE X e (RE gc cf (MX D.cl X) st)) : Snd D gc cf X (.stp a lo st) (.Subscript x (.Slice l none (some e) p2) pos) := by
  refine Snd.mk1 ⟨fun pins s0 σ H Q I hh => ?_⟩ rfl (fun _ => rfl) (fun s => by simp only [evX, fin])
  obtain ⟨F, G, θ, s, t, s', R, ev, kk⟩ := hh
  simp only [evX, fin] at ev
  obtain ⟨x1, s1, e1, ev⟩ := Rs.bind_eq ev
  obtain ⟨lo', s2, e2, ev⟩ := Rs.bind_eq ev
  obtain ⟨y, s3, e3, ev⟩ := Rs.bind_eq ev
  split at ev
  · rename_i ls e4
    cases ev
    refine (pe_two ha hl hs).run pins s0 σ H Q I ⟨F, G, θ, s, x1, s1, R, e1, fun v H1 F1 θ1 R1 l1 p1 r1 => ⟨F1, G, θ1, s1, lo', s2, R1, e2, fun H2 F2 θ2 R2 l2 p2 => ⟨F2, G, θ2, s2, .int 2, _, R2, e3, fun u H3 F3 θ3 R3 l3 p3 r3 => ?_⟩⟩⟩
    cases (show Rp _ _ _ _ _ from r3)
    have rr := R3.read (r1.mono (l2.trans l3) (p2.trans p3)) (by rw [e4]; rfl)
    rw [e4] at rr
    obtain ⟨a, xs, rfl, q, r, _⟩ := tupH rr R3.m.fle
    refine ⟨2, rfl, a, xs, rfl, rfl, q, fun p np => ?_⟩
    have hlen := r.length
    rw [← hlen] at kk
    exact Fin.tup (fun u H' F' R' l' r' => kk u H' F' θ3 R' (l1.trans (l2.trans (l3.trans l'))) (p1.trans (p2.trans p3)) (RpV.of r')) R3 np (Rps.half (Rps.dropN _ r))
  · cases ev
theorem RpVs.ofs {K : Mx} {F : Hp} {θ : List Addr} {σ : L2.St} : ∀ {ts : List Tr} {vs : List V}, Rps K F θ ts vs → RpVs K F θ σ ts vs
  | _, _, .nil => .nil
  | _, _, .cons a b => .cons (RpV.of a) (RpVs.ofs b)
noncomputable def RAS (gc : Nat → Option Tr) (cf : CF) (K : Mx) (es : List Ex) (bs : List Bool) : TA := fun σ H Q => ∃ F G θ s ts s', Rel K F G θ s σ H ∧ evSt gc cf es bs s = .ok ts s' ∧ ∀ vs H' F' θ', Rel K F' G θ' s' σ H' → FLe F F' → θ <+: θ' → RpVs K F' θ' σ ts vs → Q vs H'
theorem sDispT {X : Cx} {es : List Ex} {bs : List Bool} {xs : List Expr} {kk : Nat} {pos : Pos} (h : PA X xs (RAS gc cf (MX D.cl X) es bs)) : Snd D gc cf X (.disp 0 bs es) (.Tuple xs kk pos) := by
  refine Snd.mk1 ⟨fun pins s0 σ H Q I hh => ?_⟩ rfl (fun _ => rfl) (fun s => by simp only [evX, fin])
  obtain ⟨F, G, θ, s, t, s', R, ev, k⟩ := hh
  simp only [evX, fin] at ev
  obtain ⟨ts, s1, e1, ev⟩ := Rs.bind_eq ev
  split at ev
  · rename_i hc
    obtain ⟨h1, h2⟩ := all_pure hc
    cases ev
    refine (pe_tup h).run pins s0 σ H Q I ⟨F, G, θ, s, ts, _, R, e1, fun vs H1 F1 θ1 R1 l1 p1 r1 => ?_⟩
    have r := r1.rps h1
    refine ⟨by rw [r.length]; exact h2, fun p np => ?_⟩
    have f := R1.m.fle.none np
    exact k _ _ _ θ1 (R1.newF np) (l1.trans (FLe.upd1 f)) p1 (RpV.of (.tup (SqT.of upd_same) (r.mono (FLe.upd1 f) (List.prefix_refl _))))
  · cases ev
theorem sDispL {X : Cx} {k : Nat} {es : List Ex} {bs : List Bool} {xs : List Expr} {pos : Pos} (hk : k ≠ 0) (h : PA X xs (RAS gc cf (MX D.cl X) es bs)) : Snd D gc cf X (.disp k bs es) (.List xs pos) := by
  refine Snd.mk1 ⟨fun pins s0 σ H Q I hh => ?_⟩ rfl (fun _ => rfl) (fun s => by simp only [evX, fin])
  obtain ⟨F, G, θ, s, t, s', R, ev, kk⟩ := hh
  simp only [evX, fin] at ev
  obtain ⟨ts, s1, e1, ev⟩ := Rs.bind_eq ev
  split at ev
  · rename_i hc
    obtain ⟨h1, h2⟩ := all_pure hc
    split at ev
    · exact absurd rfl hk
    · cases ev
      refine (pe_lst h).run pins s0 σ H Q I ⟨F, G, θ, s, ts, _, R, e1, fun vs H1 F1 θ1 R1 l1 p1 r1 => ?_⟩
      have r := r1.rps h1
      refine ⟨by rw [r.length]; exact h2, fun p np => ?_⟩
      have f := R1.m.fle.none np
      exact kk _ _ _ θ1 (R1.newF np) (l1.trans (FLe.upd1 f)) p1 (RpV.of (.lst upd_same (r.mono (FLe.upd1 f) (List.prefix_refl _))))
    · cases ev
      refine (pe_lst h).run pins s0 σ H Q I ⟨F, G, θ, s, ts, s1, R, e1, fun vs H1 F1 θ1 R1 l1 p1 r1 => ?_⟩
      have r := r1.rps h1
      refine ⟨by rw [r.length]; exact h2, fun p np => ?_⟩
      have hl := R1.m.len
      refine kk _ _ _ _ (R1.share (l := .lst ts) np ⟨vs, rfl, r⟩) l1 (p1.trans (List.prefix_append _ _)) (RpV.of (.ob ?_))
      rw [hl]
      simp
  · cases ev
/-! displays of dicts -/
noncomputable def flatP (ps : List (V × V)) : List V := ps.flatMap fun p => [p.1, p.2]
noncomputable def PsRead (gc : Nat → Option Tr) (cf : CF) (K : Mx) (es : List Ex) (trs : List (TE × TE)) : Prop := ∀ (σ : L2.St) (H : Hp) (Q : List (V × V) → Hp → Prop) (F G : Hp) (θ : List Addr) (s : Sta) (ts : List Tr) (s' : Sta), Rel K F G θ s σ H → evEs gc cf es s = .ok ts s' →
  (∀ ps H' F' θ', Rel K F' G θ' s' σ H' → FLe F F' → θ <+: θ' → RpVs K F' θ' σ ts (flatP ps) → Q ps H') → tPairs trs σ H Q
theorem mergeK_nodup : ∀ (more acc : List (Key × V)), ((acc ++ more).map (·.1)).Nodup → mergeK acc more = acc ++ more
  | [], acc, _ => by rw [List.append_nil]; rfl
  | p :: more, acc, h => by
    have hn : valV acc p.1 = none := by
      cases e : valV acc p.1 with
      | none => rfl
      | some v =>
        exfalso
        unfold valV at e
        obtain ⟨q, h1, _⟩ := Option.map_eq_some_iff.mp e
        have h2 := List.mem_of_find?_eq_some h1
        have h3 := List.find?_some h1
        have h4 : q.1 = p.1 := of_decide_eq_true h3
        rw [List.map_append, List.nodup_append] at h
        exact h.2.2 q.1 (List.mem_map.mpr ⟨q, h2, rfl⟩) p.1 (by simp) h4
    show mergeK (putK acc p.1 p.2) more = _
    rw [putK_new p.2 hn, mergeK_nodup more (acc ++ [(p.1, p.2)]) (by rw [List.append_assoc]; exact h), List.append_assoc]
    rfl
theorem dspT_ok {K : Mx} {F : Hp} {θ : List Addr} {σ : L2.St} : ∀ {ts : List Tr} {ks : List Key} {ls : List Tr} {ps : List (V × V)}, dspT ts = some (ks, ls) → ts.all Tr.pure = true → RpVs K F θ σ ts (flatP ps) → ∃ kvs : List (Key × V), ps = kvs.map (fun kv => (kV kv.1, kv.2)) ∧ kvs.map (·.1) = ks ∧ Rps K F θ ls (kvs.map (·.2))
  | [], ks, ls, ps, h, _, r => by
    simp only [dspT] at h
    cases h
    cases ps with
    | nil => exact ⟨[], rfl, rfl, .nil⟩
    | cons p ps => cases r
  | [_], ks, ls, ps, h, _, r => by simp only [dspT] at h; cases h
  | k :: v :: ts, ks, ls, ps, h, hp, r => by
    simp only [dspT] at h
    split at h
    · rename_i k' ks' ls' h1 h2
      cases h
      cases ps with
      | nil => cases r
      | cons p ps =>
        have r' : RpVs K F θ σ (k :: v :: ts) (p.1 :: p.2 :: flatP ps) := r
        rw [List.all_cons, List.all_cons, Bool.and_eq_true, Bool.and_eq_true] at hp
        cases r' with
        | cons r1 r2 =>
          cases r2 with
          | cons r2 r3 =>
            obtain ⟨kvs, e1, e2, e3⟩ := dspT_ok h2 hp.2.2 r3
            have ek9 : ∀ z : V, Rp K F θ k z → z = kV k' := by
              intro z q1
              cases k with
              | int i => cases q1; cases h1; rfl
              | str i => cases q1; cases h1; rfl
              | _ => cases h1
            have ek := ek9 _ (r1.rp hp.1)
            refine ⟨(k', p.2) :: kvs, ?_, by rw [List.map_cons, e2], .cons (r2.rp hp.2.1) e3⟩
            rw [List.map_cons, ← e1, ← ek]
    · cases h
theorem chkPs_facts {N : List Str} {sc : Scope} : ∀ {es : List Ex} {ks : List (Option Expr)} {vs : List Expr}, chkPs D N sc es ks vs = true → ks.all (·.isSome) = true ∧ ks.length = vs.length ∧ (es ≠ [] → ks ≠ [])
  | [], ks, vs, h => by
    simp only [chkPs] at h
    split at h
    · exact ⟨rfl, rfl, fun z => absurd rfl z⟩
    · cases h
  | [_], ks, vs, h => by simp only [chkPs] at h; cases h
  | a :: b :: es, ks, vs, h => by
    simp only [chkPs] at h
    split at h
    · obtain ⟨q1, q2, _⟩ := chkPs_facts (and2 h).2
      exact ⟨by rw [List.all_cons, q1]; rfl, by rw [List.length_cons, List.length_cons, q2], fun _ => by simp⟩
    · cases h
theorem sDsp {X : Cx} {sc : Scope} {es : List Ex} {ks : List (Option Expr)} {vs : List Expr} {pos : Pos} {trs : List (TE × TE)} (hP : PPs X pos ks vs trs) (hR : PsRead gc cf (MX D.cl X) es trs) (hc : chkPs D X.N sc es ks vs = true) (h15 : ks.length ≤ 15) : Snd D gc cf X (.dsp es) (.Dict ks vs pos) := by
  obtain ⟨g1, g2, g3⟩ := chkPs_facts hc
  refine Snd.mk1 ⟨fun pins s0 σ H Q I hh => ?_⟩ rfl (fun _ => rfl) (fun s => by simp only [evX, fin])
  obtain ⟨F, G, θ, s, t, s', R, ev, k⟩ := hh
  simp only [evX, fin] at ev
  obtain ⟨ts, s1, e1, ev⟩ := Rs.bind_eq ev
  split at ev
  · rename_i hp
    split at ev
    · rename_i kks ls e2
      split at ev
      · rename_i hn
        cases ev
        cases es with
        | nil =>
          simp only [evEs] at e1
          cases e1
          simp only [dspT] at e2
          cases e2
          have h0 : ks = [] ∧ vs = [] := by
            simp only [chkPs] at hc
            split at hc
            · exact ⟨rfl, rfl⟩
            · cases hc
          obtain ⟨rfl, rfl⟩ := h0
          refine pe_dnewK.run pins s0 σ H Q I fun p np => ?_
          have f := R.m.fle.none np
          exact k _ _ _ θ (R.newF np) (FLe.upd1 f) (List.prefix_refl _) (RpV.of (.dk (kvs := []) upd_same rfl .nil))
        | cons e0 es0 =>
          refine (pe_disp hP g1 g2 (g3 (by simp)) h15).run pins s0 σ H Q I fun p np => ?_
          have gp : G p = none := R.m.gle.none np
          refine hR σ _ _ F (upd G p (.dK [])) θ s ts _ (R.pend np) e1 fun ps H2 F2 θ2 R2 l2 p2 r2 => ?_
          obtain ⟨kvs, q1, q2, q3⟩ := dspT_ok e2 hp r2
          have hl : kvs.length ≤ 15 := by rw [← List.length_map (f := (·.1)), q2]; exact hn.2
          refine ⟨R2.m.gle p _ upd_same, kvs, q1, hl, ?_⟩
          have f2 : F2 p = none := R2.m.fg p _ upd_same
          rw [mergeK_nodup kvs [] (by rw [List.nil_append, q2]; exact hn.1), List.nil_append]
          exact k _ _ _ θ2 (R2.pendDone gp) (l2.trans (FLe.upd1 f2)) p2 (RpV.of (.dk (kvs := kvs) upd_same q2 (q3.mono (FLe.upd1 f2) (List.prefix_refl _))))
      · cases ev
    · cases ev
  · cases ev
theorem dspN_ok {K : Mx} {F H : Hp} {θ : List Addr} {σ : L2.St} (hF : FLe F H) : ∀ {ts : List Tr} {ks : List (List Key)} {ls : List Tr} {ps : List (V × V)}, dspN ts = some (ks, ls) → ts.all Tr.pure = true → RpVs K F θ σ ts (flatP ps) → ∃ kvs : List (List Key × Addr × V), ps = kvs.map (fun kv => (V.ref kv.2.1, kv.2.2)) ∧ kvs.map (·.1) = ks ∧ Rps K F θ ls (kvs.map (·.2.2)) ∧ ∀ q ∈ kvs, SqT K.K F q.2.1 (q.1.map kV)
  | [], ks, ls, ps, h, _, r => by
    simp only [dspN] at h
    cases h
    cases ps with
    | nil => exact ⟨[], rfl, rfl, .nil, fun q hq => nomatch hq⟩
    | cons p ps => cases r
  | [_], ks, ls, ps, h, _, r => by simp [dspN] at h
  | k :: v :: ts, ks, ls, ps, h, hp, r => by
    obtain ⟨l, rfl⟩ : ∃ l, k = .tup l := by
      cases k with
      | tup l => exact ⟨l, rfl⟩
      | _ => simp [dspN] at h
    simp only [dspN] at h
    split at h
    · rename_i k' ks' ls' h1 h2
      cases h
      cases ps with
      | nil => cases r
      | cons p ps =>
        have r' : RpVs K F θ σ (.tup l :: v :: ts) (p.1 :: p.2 :: flatP ps) := r
        rw [List.all_cons, List.all_cons, Bool.and_eq_true, Bool.and_eq_true] at hp
        cases r' with
        | cons r1 r2 =>
          cases r2 with
          | cons r2 r3 =>
            obtain ⟨kvs, e1, e2, e3, e4⟩ := dspN_ok hF h2 hp.2.2 r3
            have q1 := r1.rp hp.1
            obtain ⟨p1, p2⟩ := p
            dsimp only at q1
            cases q1 with
            | @tup b xs _ hs rs =>
              obtain rfl := keysT_ok hF h1 rs
              refine ⟨(k', b, p2) :: kvs, ?_, by rw [List.map_cons, e2], .cons (r2.rp hp.2.1) e3, fun q hq => ?_⟩
              · rw [List.map_cons, ← e1]
              · rcases List.mem_cons.mp hq with rfl | hq
                · exact hs
                · exact e4 q hq
    · cases h
theorem sDspN {X : Cx} {sc : Scope} {es : List Ex} {ks : List (Option Expr)} {vs : List Expr} {pos : Pos} {trs : List (TE × TE)} (hu : X.A.units + 200 < cLine) (hP : PPs X pos ks vs trs) (hR : PsRead gc cf (MX D.cl X) es trs) (hc : chkPs D X.N sc es ks vs = true) (h15 : ks.length ≤ 15) : Snd D gc cf X (.dspN es) (.Dict ks vs pos) := by
  obtain ⟨g1, g2, g3⟩ := chkPs_facts hc
  refine Snd.mk1 ⟨fun pins s0 σ H Q I hh => ?_⟩ rfl (fun _ => rfl) (fun s => by simp only [evX, fin])
  obtain ⟨F, G, θ, s, t, s', R, ev, k⟩ := hh
  simp only [evX, fin] at ev
  obtain ⟨ts, s1, e1, ev⟩ := Rs.bind_eq ev
  split at ev
  · rename_i hp
    split at ev
    · rename_i kks ls e2
      split at ev
      · rename_i hn
        cases ev
        have e0 : es ≠ [] := by
          rintro rfl
          simp only [evEs] at e1
          cases e1
          simp only [dspN] at e2
          cases e2
          exact hn.2.2 rfl
        refine (pe_dispN (by omega) hP g1 g2 (g3 e0) h15).run pins s0 σ H Q I fun p np => ?_
        have gp : G p = none := R.m.gle.none np
        refine hR σ _ _ F (upd G p (.dK [])) θ s ts _ (R.pend np) e1 fun ps H2 F2 θ2 R2 l2 p2 r2 => ?_
        obtain ⟨kvs, q1, q2, q3, q4⟩ := dspN_ok R2.m.fle e2 hp r2
        have hl : kvs.length ≤ 15 := by rw [← List.length_map (f := (·.1)), q2]; exact hn.2.1
        refine ⟨R2.m.gle p _ upd_same, kvs, q1, fun q hq => R2.m.fle.tup (q4 q hq), by rw [q2]; exact hn.1, hl, ?_⟩
        have f2 : F2 p = none := R2.m.fg p _ upd_same
        exact k _ _ _ θ2 (R2.pendDone gp) (l2.trans (FLe.upd1 f2)) p2 (RpV.of (.dt (kvs := kvs) upd_same q2 (q3.mono (FLe.upd1 f2) (List.prefix_refl _)) fun q hq => (FLe.upd1 f2).tup (q4 q hq)))
      · cases ev
    · cases ev
  · cases ev
theorem lastM {op op' : CmpOp} {y z : Expr} (h : behindInMarks op' z = false) : lastMarks [op, op'] [y, z] = false := h
theorem chks1 {N : List Str} {sc : Scope} {es : List Ex} {e : Ex} {z : Expr} (he : es = [e]) (h : chks D N sc es [z] = true) : chk D N sc e z = true := by
  subst he
  simp only [chks] at h
  exact (and2 (and2 h).1).2
mutual
theorem sX : ∀ (e : Ex) (X : Cx) (sc : Scope) (ex : Expr), Cxt D gc cf X sc → chk D X.N sc e ex = true → Snd D gc cf X e ex
  | .var i, X, sc, ex, C, h => by
    simp only [chk] at h
    split at h
    · obtain ⟨h1, h2⟩ := and2 h
      obtain ⟨h1, h3⟩ := and2 h1
      exact sSlot (of_decide_eq_true h1) (C.vis _ h3) h2
    · cases h
  | .mv i, X, sc, ex, C, h => by
    simp only [chk] at h
    split at h
    · obtain ⟨h1, h2⟩ := and2 h
      obtain ⟨h1, h3⟩ := and2 h1
      exact sMv (of_decide_eq_true h1) (C.vis _ h3) h2
    · cases h
  | .gl k, X, sc, ex, C, h => by
    simp only [chk] at h
    split at h
    · obtain ⟨h1, h2⟩ := and2 h
      obtain ⟨h1, h3⟩ := and2 h1
      exact sGl C (of_decide_eq_true h1) (C.glo _ h3) h2
    · cases h
  | .int i, X, sc, ex, C, h => by
    simp only [chk] at h
    split at h
    · obtain rfl := of_decide_eq_true h
      exact sConst pe_int (fun _ _ => .int _) (fun s => by simp only [evX, fin]) rfl (fun _ => rfl) (fun s => by simp only [evX, fin])
    · cases h
  | .str z, X, sc, ex, C, h => by
    simp only [chk] at h
    split at h
    · obtain rfl := of_decide_eq_true h
      exact sConst pe_str (fun _ _ => .str _) (fun s => by simp only [evX, fin]) rfl (fun _ => rfl) (fun s => by simp only [evX, fin])
    · cases h
  | .bl b, X, sc, ex, C, h => by
    simp only [chk] at h
    split at h
    · obtain rfl := of_decide_eq_true h
      exact sConst pe_bl (fun _ _ => .bl _) (fun s => by simp only [evX, fin]) rfl (fun _ => rfl) (fun s => by simp only [evX, fin])
    · cases h
  | .non, X, sc, ex, C, h => by
    simp only [chk] at h
    split at h
    · exact sConst pe_non (fun _ _ => .non) (fun s => by simp only [evX, fin]) rfl (fun _ => rfl) (fun s => by simp only [evX, fin])
    · cases h
  | .nul, X, sc, ex, C, h => by simp only [chk] at h; cases h
  | .tup es, X, sc, ex, C, h => by
    simp only [chk] at h
    split at h
    · exact sTup (sEs es X sc _ C h)
    · cases h
  | .lst es, X, sc, ex, C, h => by
    simp only [chk] at h
    split at h
    · exact sLst (sEs es X sc _ C h)
    · cases h
  | .shd es, X, sc, ex, C, h => by
    simp only [chk] at h
    split at h
    · exact sShd (sEs es X sc _ C h)
    · cases h
  | .bin o a b, X, sc, ex, C, h => by
    simp only [chk] at h
    split at h
    · obtain ⟨h1, h2⟩ := and2 h
      obtain ⟨h1, h3⟩ := and2 h1
      obtain rfl := of_decide_eq_true h1
      exact Snd.mk1 (sBin C (sX a X sc _ C h3).pe (sX b X sc _ C h2).pe) rfl (fun _ => rfl) (fun s => by simp only [evX, fin])
    · cases h
  | .neg a, X, sc, ex, C, h => by
    simp only [chk] at h
    split at h
    · exact sNeg (sX a X sc _ C h).pe
    · cases h
  | .cmp o a b, X, sc, ex, C, h => by
    simp only [chk] at h
    split at h
    · obtain ⟨h1, h4⟩ := and2 h
      obtain ⟨h1, h2⟩ := and2 h1
      obtain ⟨h1, h3⟩ := and2 h1
      obtain rfl := of_decide_eq_true h1
      exact sCmp C (sX a X sc _ C h3).pe (sX b X sc _ C h2).pe (by simpa using h4)
    · cases h
  | .chain o p a b c, X, sc, ex, C, h => by
    simp only [chk] at h
    split at h
    · obtain ⟨h1, h6⟩ := and2 h
      obtain ⟨h1, h5⟩ := and2 h1
      obtain ⟨h1, h4⟩ := and2 h1
      obtain ⟨h1, h3⟩ := and2 h1
      obtain ⟨h1, h2⟩ := and2 h1
      obtain rfl := of_decide_eq_true h1
      obtain rfl := of_decide_eq_true h2
      exact sChain C (sX a X sc _ C h3).pe (sX b X sc _ C h4).pe (sX c X sc _ C h5).pe (lastM (by simpa using h6))
    · cases h
  | .and_ a b, X, sc, ex, C, h => by
    simp only [chk] at h
    split at h
    · rename_i x y r p
      obtain ⟨h1, h2⟩ := and2 h
      refine sAnd (sX a X sc _ C h1) (fun e => ?_) (fun e => ?_)
      · subst e
        exact sX b X sc _ C h2
      · cases r with
        | nil => exact absurd rfl e
        | cons z w => exact sX b X sc _ C h2
    · cases h
  | .or_ a b, X, sc, ex, C, h => by
    simp only [chk] at h
    split at h
    · rename_i x y r p
      obtain ⟨h1, h2⟩ := and2 h
      refine sOr (sX a X sc _ C h1) (fun e => ?_) (fun e => ?_)
      · subst e
        exact sX b X sc _ C h2
      · cases r with
        | nil => exact absurd rfl e
        | cons z w => exact sX b X sc _ C h2
    · cases h
  | .not_ a, X, sc, ex, C, h => by
    simp only [chk] at h
    split at h
    · exact sNot (sX a X sc _ C h)
    · cases h
  | .ite c a b, X, sc, ex, C, h => by
    simp only [chk] at h
    split at h
    · obtain ⟨h1, h2⟩ := and2 h
      obtain ⟨h1, h3⟩ := and2 h1
      exact sIte (sX c X sc _ C h1) (sX a X sc _ C h3) (sX b X sc _ C h2)
    · cases h
  | .idx a b, X, sc, ex, C, h => by
    simp only [chk] at h
    split at h
    · obtain ⟨h1, h2⟩ := and2 h
      obtain ⟨h1, h3⟩ := and2 h1
      exact sIdx C (sX a X sc _ C h3).pe (sX b X sc _ C h2).pe (by simpa using h1)
    · cases h
  | .sl a lo hi, X, sc, ex, C, h => by
    simp only [chk] at h
    split at h
    · rename_i l hh _ _
      obtain ⟨h1, h2⟩ := and2 h
      obtain ⟨h1, h3⟩ := and2 h1
      refine sSl (sX a X sc _ C h1).pe (sPart ?_) (sPart ?_)
      · cases l with
        | none => exact h3
        | some l =>
          obtain ⟨h4, h5⟩ := and2 h3
          exact ⟨by simpa using h4, (sX lo X sc _ C h5).pe⟩
      · cases hh with
        | none => exact h2
        | some l =>
          obtain ⟨h4, h5⟩ := and2 h2
          exact ⟨by simpa using h4, (sX hi X sc _ C h5).pe⟩
    · cases h
  | .stp a lo st, X, sc, ex, C, h => by
    simp only [chk] at h
    split at h
    · rename_i l _ _ _
      obtain ⟨h1, h2⟩ := and2 h
      obtain ⟨h1, h3⟩ := and2 h1
      refine sStp (sX a X sc _ C h1).pe (sPart ?_) (sX st X sc _ C h2).pe
      cases l with
      | none => exact h3
      | some l =>
        obtain ⟨h4, h5⟩ := and2 h3
        exact ⟨by simpa using h4, (sX lo X sc _ C h5).pe⟩
    · cases h
  | .rev a, X, sc, ex, C, h => by
    simp only [chk] at h
    split at h
    · exact sRev (sX a X sc _ C h).pe
    · cases h
  | .bad, X, sc, ex, C, h => ⟨⟨fun pins s0 σ H Q I hh => by obtain ⟨F, G, θ, s, t, s', R, ev, k⟩ := hh; simp only [evX] at ev; cases ev⟩, ⟨fun pins s0 σ H Q I hh => by obtain ⟨F, G, θ, s, t, s', R, ev, k⟩ := hh; simp only [evX] at ev; cases ev⟩, fun _ => ⟨fun pins s0 σ H QT QF I hh => by obtain ⟨F, G, θ, s, t, s', R, ev, k⟩ := hh; simp only [evX] at ev; cases ev⟩⟩
  | .orV a b, X, sc, ex, C, h => by
    simp only [chk] at h
    split at h
    · rename_i x y r p
      obtain ⟨h1, h2⟩ := and2 h
      refine Snd.orV (sOrV (sX a X sc _ C h1) (fun e => ?_) (fun e => ?_)) (sX a X sc _ C h1) (fun e => ?_) (fun e => ?_)
      · subst e
        exact sX b X sc _ C h2
      · cases r with
        | nil => exact absurd rfl e
        | cons z w => exact sX b X sc _ C h2
      · subst e
        exact sX b X sc _ C h2
      · cases r with
        | nil => exact absurd rfl e
        | cons z w => exact sX b X sc _ C h2
    · cases h
  | .fld a f, X, sc, ex, C, h => by
    simp only [chk] at h
    split at h
    · obtain ⟨h1, h4⟩ := and2 h
      obtain ⟨h1, h3⟩ := and2 h1
      obtain ⟨h1, h2⟩ := and2 h1
      obtain rfl := of_decide_eq_true h1
      exact sFld C (of_decide_eq_true h2) (by simpa using h3) (sX a X sc _ C h4).pe
    · cases h
  | .isC c a, X, sc, ex, C, h => by
    simp only [chk] at h
    split at h
    · obtain ⟨h1, h7⟩ := and2 h
      obtain ⟨h1, h6⟩ := and2 h1
      obtain ⟨h1, h5⟩ := and2 h1
      obtain ⟨h1, h4⟩ := and2 h1
      obtain ⟨h1, h3⟩ := and2 h1
      obtain ⟨h1, h2⟩ := and2 h1
      obtain ⟨rfl, g1, m1⟩ := blB_ok C h1
      obtain rfl := of_decide_eq_true h4
      exact sIsC C (of_decide_eq_true h7) g1 m1 (C.glo _ h5) h6 (by simpa using h2) (sX a X sc _ C h3).pe
    · cases h
  | .make f es, X, sc, ex, C, h => by
    simp only [chk] at h
    split at h
    · obtain ⟨h1, h2⟩ := and2 h
      obtain ⟨h1, h3⟩ := and2 h1
      obtain ⟨h1, h4⟩ := and2 h1
      exact sMake C (of_decide_eq_true h1) (C.glo _ h4) h3 (sEs es X sc _ C h2) h2
    · cases h
  | .dsp es, X, sc, ex, C, h => by
    simp only [chk] at h
    split at h
    · obtain ⟨h1, h2⟩ := and2 h
      obtain ⟨trs, q1, q2⟩ := sPs es X sc _ _ C h1
      exact sDsp (q1 _) q2 h1 (of_decide_eq_true h2)
    · cases h
  | .dspN es, X, sc, ex, C, h => by
    simp only [chk] at h
    split at h
    · obtain ⟨h1, h2⟩ := and2 h
      obtain ⟨trs, q1, q2⟩ := sPs es X sc _ _ C h1
      exact sDspN C.un (q1 _) q2 h1 (of_decide_eq_true h2)
    · cases h
  | .isE a, X, sc, ex, C, h => by
    simp only [chk] at h
    split at h
    · obtain ⟨h1, h4⟩ := and2 h
      obtain ⟨h1, h3⟩ := and2 h1
      obtain rfl := of_decide_eq_true h1
      exact sIsE C (sX a X sc _ C h4).pe
    · cases h
  | .dcomp kx vx tg a own, X, sc, ex, C, h => by
    simp only [chk] at h
    split at h
    · obtain ⟨h1, h8⟩ := and2 h
      obtain ⟨h1, h7⟩ := and2 h1
      obtain ⟨h1, h6⟩ := and2 h1
      obtain ⟨h1, h5⟩ := and2 h1
      obtain ⟨h1, h4⟩ := and2 h1
      obtain ⟨h1, h3⟩ := and2 h1
      obtain ⟨h1, h2⟩ := and2 h1
      exact sDcomp C (sX a X sc _ C h8).pe h3 (by simpa using h1) h2 (fun X' C' eN _ => sX kx X' _ _ C' (by rw [eN]; exact h4)) (fun X' C' eN _ => sX vx X' _ _ C' (by rw [eN]; exact h5)) h6
    · cases h
  | .meth m a es, X, sc, ex, C, h => by
    simp only [chk] at h
    split at h
    · obtain ⟨h1, h6⟩ := and2 h
      obtain ⟨h1, h5⟩ := and2 h1
      obtain ⟨h1, h4⟩ := and2 h1
      obtain ⟨h1, h3⟩ := and2 h1
      obtain ⟨h1, h2⟩ := and2 h1
      obtain rfl := of_decide_eq_true h1
      exact sMeth C (by simpa using h2) h3 (of_decide_eq_true h5) (sX a X sc _ C h4).pe (sEs es X sc _ C h6) h6
    · cases h
  | .popAt i e, X, sc, ex, C, h => by
    simp only [chk] at h
    split at h
    · obtain ⟨h1, h7⟩ := and2 h
      obtain ⟨h1, h6⟩ := and2 h1
      obtain ⟨h1, h5⟩ := and2 h1
      obtain ⟨h1, h4⟩ := and2 h1
      obtain ⟨h1, h3⟩ := and2 h1
      obtain ⟨h1, h2⟩ := and2 h1
      obtain rfl := of_decide_eq_true h1
      exact sPopAt C (of_decide_eq_true h2) (C.vis _ h3) h4 h5 (by simpa using h6) (sX e X sc _ C h7).pe
    · cases h
  | .cmpO o a b, X, sc, ex, C, h => by
    simp only [chk] at h
    split at h
    · obtain ⟨h1, h4⟩ := and2 h
      obtain ⟨h1, h2⟩ := and2 h1
      obtain ⟨h1, h3⟩ := and2 h1
      obtain rfl := of_decide_eq_true h1
      exact sCmpO C (sX a X sc _ C h3).pe (sX b X sc _ C h2).pe (by simpa using h4)
    · cases h
  | .biO b a, X, sc, ex, C, h => by
    simp only [chk] at h
    split at h
    · obtain ⟨h1, h4⟩ := and2 h
      obtain ⟨h1, h3⟩ := and2 h1
      obtain ⟨h1, h2⟩ := and2 h1
      obtain ⟨rfl, g1, m1⟩ := blB_ok C h1
      exact sBiO (sc := sc) (of_decide_eq_true h2) g1 m1 (by simpa using h3) (sX a X sc _ C h4).pe
    · cases h
  | .prop c m f a, X, sc, ex, C, h => by
    simp only [chk] at h
    split at h
    · obtain ⟨h1, h4⟩ := and2 h
      obtain ⟨h1, h3⟩ := and2 h1
      obtain ⟨h1, h2⟩ := and2 h1
      obtain rfl := of_decide_eq_true h2
      exact sProp C (of_decide_eq_true h1) (by simpa using h3) (sX a X sc _ C h4).pe
    · cases h
  | .eqV c f a b, X, sc, ex, C, h => by
    simp only [chk] at h
    split at h
    · obtain ⟨h1, h4⟩ := and2 h
      obtain ⟨h1, h3⟩ := and2 h1
      obtain ⟨h1, h2⟩ := and2 h1
      exact sEqV C (of_decide_eq_true h1) (sX a X sc _ C h2).pe (sX b X sc _ C h3).pe (by simpa using h4)
    · cases h
  | .mcall c m f a es, X, sc, ex, C, h => by
    simp only [chk] at h
    split at h
    · obtain ⟨h1, h6⟩ := and2 h
      obtain ⟨h1, h5⟩ := and2 h1
      obtain ⟨h1, h4⟩ := and2 h1
      obtain ⟨h1, h3⟩ := and2 h1
      obtain ⟨h1, h2⟩ := and2 h1
      obtain rfl := of_decide_eq_true h2
      exact sMcall C (of_decide_eq_true h1) (sX a X sc _ C h5).pe (sEs es X sc _ C h6) h6 h3 (of_decide_eq_true h4)
    · cases h
  | .compO elt tg a cond own, X, sc, ex, C, h => by
    simp only [chk] at h
    split at h
    · rename_i e' tg' iter ifs scope pos
      obtain ⟨h1, hit⟩ := and2 h
      obtain ⟨h1, hst⟩ := and2 h1
      obtain ⟨h1, hcond⟩ := and2 h1
      obtain ⟨h1, htg⟩ := and2 h1
      obtain ⟨h1, helt⟩ := and2 h1
      obtain ⟨h1, hblk⟩ := and2 h1
      obtain ⟨hset, hin⟩ := and2 h1
      have hE : ∀ X' : Cx, Cxt D gc cf X' scope → X'.N = X.N → MX D.cl X' = MX D.cl X → Snd D gc cf X' elt e' := fun X' C' hN _ => sX elt X' scope e' C' (by rw [hN]; exact helt)
      cases ifs with
      | nil =>
        refine sCompO (tt := tYes) C (sX a X sc _ C hit).pe hblk (by simpa using hset) hin hE htg (fun _ _ _ _ => pts_nil) (fun {σ H Q F G θ s b s'} R e k => ?_)
        rw [if_pos hcond] at e
        cases e
        exact k H F θ R (FLe.refl F) (List.prefix_refl _)
      | cons c r =>
        cases r with
        | cons _ _ => cases hcond
        | nil =>
          obtain ⟨h2, h3⟩ := and2 hcond
          refine sCompO (tt := RT gc cf (MX D.cl X) cond) C (sX a X sc _ C hit).pe hblk (by simpa using hset) hin hE htg (fun X' C' hN hK => ?_) (fun {σ H Q F G θ s b s'} R e k => ?_)
          · have z := pts_one (sX cond X' scope c C' (by rw [hN]; exact h3)).pt
            rw [hK] at z
            exact z
          · rw [if_neg (by simpa using h2)] at e
            exact ⟨F, G, θ, s, b, s', R, e, k⟩
    · cases h
  | .disp k bs es, X, sc, ex, C, h => by
    simp only [chk] at h
    split at h
    · split at h
      · exact sDispT (sSts es bs X sc _ C h)
      · cases h
    · rename_i hk
      split at h
      · exact sDispL (fun z => hk z) (sSts es bs X sc _ C h)
      · cases h
  | .callK f es ks, X, sc, ex, C, h => by
    simp only [chk] at h
    split at h
    · obtain ⟨h1, h5⟩ := and2 h
      obtain ⟨h1, h2⟩ := and2 h1
      obtain ⟨h1, h3⟩ := and2 h1
      obtain ⟨h1, h4⟩ := and2 h1
      split at h5
      · rename_i ps hp
        exact sCallK C (of_decide_eq_true h1) (C.glo _ h4) h3 (sEs es X sc _ C h2) h2 hp (sKs ks X sc _ _ C h5) h5
      · cases h5
    · cases h
  | .callP f es ks ps, X, sc, ex, C, h => by
    simp only [chk] at h
    split at h
    · obtain ⟨h1, h5⟩ := and2 h
      obtain ⟨h1, h2⟩ := and2 h1
      obtain ⟨h1, h3⟩ := and2 h1
      obtain ⟨h1, h4⟩ := and2 h1
      split at h5
      · rename_i n qs ns hp
        obtain ⟨h5, h6⟩ := and2 h5
        obtain ⟨h5, h7⟩ := and2 h5
        obtain rfl := of_decide_eq_true h5
        obtain rfl := of_decide_eq_true h7
        exact sCallP C (of_decide_eq_true h1) (C.glo _ h4) h3 (sEs es X sc _ C h2) h2 hp (sKs ks X sc _ _ C h6) h6
      · cases h5
    · cases h
  | .call f es, X, sc, ex, C, h => by
    simp only [chk] at h
    split at h
    · obtain ⟨h1, h2⟩ := and2 h
      obtain ⟨h1, h3⟩ := and2 h1
      obtain ⟨h1, h4⟩ := and2 h1
      exact sCall C (of_decide_eq_true h1) (C.glo _ h4) h3 (sEs es X sc _ C h2) h2
    · cases h
  | .bi b es, X, sc, ex, C, h => by
    simp only [chk] at h
    split at h
    · rename_i x p1 xs p2
      obtain ⟨h1, h2⟩ := and2 h
      obtain ⟨e1, g1, m1⟩ := blB_ok C h1
      subst e1
      have isI : ∀ (id : String) (nm : Str), b.isTy = some id → bootBuiltins nm = some (.type id) → nm ≠ "__name__" → (nm == ("__debug__" : Str)) = false →
          (∃ z y pq, xs = [z, .Name y pq] ∧ chks D X.N sc es [z] = true ∧ blB D sc y nm = true) → Snd D gc cf X (.bi b es) (.Call (.Name b.nm p1) xs [] p2) := by
        intro id nm hid hb hn1 hn2 ⟨z, y, pq, hx, h3, h4⟩
        subst hx
        obtain ⟨rfl, g2, m2⟩ := blB_ok C h4
        refine sBiI C hid g1 m1 g2 m2 hb hn1 hn2 (sEs es X sc _ C h3) (fun e he => (sAl es X sc C e z he (chks1 he h3)).pe) h3
      cases b with
      | len => exact sBiF C rfl g1 m1 (sEs es X sc _ C h2) h2
      | abs => exact sBiF C rfl g1 m1 (sEs es X sc _ C h2) h2
      | sum => exact sBiF C rfl g1 m1 (sEs es X sc _ C h2) h2
      | max2 => exact sBiF C rfl g1 m1 (sEs es X sc _ C h2) h2
      | min2 => exact sBiF C rfl g1 m1 (sEs es X sc _ C h2) h2
      | all => exact sBiF C rfl g1 m1 (sEs es X sc _ C h2) h2
      | any => exact sBiF C rfl g1 m1 (sEs es X sc _ C h2) h2
      | repr => exact sBiF C rfl g1 m1 (sEs es X sc _ C h2) h2
      | minOf => exact sBiF C rfl g1 m1 (sEs es X sc _ C h2) h2
      | maxOf => exact sBiF C rfl g1 m1 (sEs es X sc _ C h2) h2
      | sorted => exact sBiF C rfl g1 m1 (sEs es X sc _ C h2) h2
      | strOf => exact sBiT rfl g1 m1 (sEs es X sc _ C h2) h2
      | int => exact sBiT rfl g1 m1 (sEs es X sc _ C h2) h2
      | listOf => exact sBiT rfl g1 m1 (sEs es X sc _ C h2) h2
      | tupOf => exact sBiT rfl g1 m1 (sEs es X sc _ C h2) h2
      | isInt =>
        simp only at h2
        split at h2
        · rename_i z y pq
          exact isI "int" "int" rfl boot_tys.1 (by decide +kernel) (by decide +kernel) ⟨z, y, pq, rfl, and2 h2⟩
        · cases h2
      | isBool =>
        simp only at h2
        split at h2
        · rename_i z y pq
          exact isI "bool" "bool" rfl boot_tys.2.1 (by decide +kernel) (by decide +kernel) ⟨z, y, pq, rfl, and2 h2⟩
        · cases h2
      | isStr =>
        simp only at h2
        split at h2
        · rename_i z y pq
          exact isI "str" "str" rfl boot_tys.2.2.1 (by decide +kernel) (by decide +kernel) ⟨z, y, pq, rfl, and2 h2⟩
        · cases h2
      | isTup =>
        simp only at h2
        split at h2
        · rename_i z y pq
          exact isI "tuple" "tuple" rfl boot_tys.2.2.2 (by decide +kernel) (by decide +kernel) ⟨z, y, pq, rfl, and2 h2⟩
        · cases h2
      | listRg =>
        simp only at h2
        split at h2
        · rename_i y q ys q2
          obtain ⟨h3, h4⟩ := and2 h2
          obtain ⟨h3, h5⟩ := and2 h3
          obtain ⟨rfl, g2, m2⟩ := blB_ok C h3
          obtain ⟨y0, rfl⟩ := List.length_eq_one_iff.mp (of_decide_eq_true h4)
          exact sListRg C g1 m1 g2 m2 (fun e he => (sAl es X sc C e y0 he (chks1 he h5)).pe) h5
        · cases h2
    · cases h
  | .pop i, X, sc, ex, C, h => by
    simp only [chk] at h
    split at h
    · obtain ⟨h1, h5⟩ := and2 h
      obtain ⟨h1, h4⟩ := and2 h1
      obtain ⟨h1, h3⟩ := and2 h1
      obtain ⟨h1, h2⟩ := and2 h1
      obtain rfl := of_decide_eq_true h1
      exact sPop (of_decide_eq_true h2) (C.vis _ h3) h4 h5
    · cases h
  | .comp k elt tg its cond own, X, sc, ex, C, h => by
    simp only [chk] at h
    split at h
    · rename_i e' tg' iter ifs scope pos
      obtain ⟨h1, hit⟩ := and2 h
      obtain ⟨h1, hcond⟩ := and2 h1
      obtain ⟨h1, htg⟩ := and2 h1
      obtain ⟨h1, helt⟩ := and2 h1
      obtain ⟨h1, hblk⟩ := and2 h1
      obtain ⟨hset, hin⟩ := and2 h1
      have hI : PI X tg' iter (RI gc cf (MX D.cl X) k its) := sI C (fun e x he hx => (sAl its X sc C e x he hx).pe) (fun xs hxs => sEs its X sc xs C hxs) (.inr ⟨_, _, htg⟩) hit
      have hE : ∀ X' : Cx, Cxt D gc cf X' scope → X'.N = X.N → MX D.cl X' = MX D.cl X → Snd D gc cf X' elt e' := fun X' C' hN _ => sX elt X' scope e' C' (by rw [hN]; exact helt)
      cases ifs with
      | nil =>
        refine sComp (tt := tYes) C hI hblk (by simpa using hset) hin hE htg (fun _ _ _ _ => pts_nil) (fun {σ H Q F G θ s b s'} R e k => ?_)
        rw [if_pos hcond] at e
        cases e
        exact k H F θ R (FLe.refl F) (List.prefix_refl _)
      | cons c r =>
        cases r with
        | cons _ _ => cases hcond
        | nil =>
          obtain ⟨h2, h3⟩ := and2 hcond
          refine sComp (tt := RT gc cf (MX D.cl X) cond) C hI hblk (by simpa using hset) hin hE htg (fun X' C' hN hK => ?_) (fun {σ H Q F G θ s b s'} R e k => ?_)
          · have z := pts_one (sX cond X' scope c C' (by rw [hN]; exact h3)).pt
            rw [hK] at z
            exact z
          · rw [if_neg (by simpa using h2)] at e
            exact ⟨F, G, θ, s, b, s', R, e, k⟩
    · cases h
termination_by structural e => e
theorem sPs : ∀ (es : List Ex) (X : Cx) (sc : Scope) (ks : List (Option Expr)) (vs : List Expr), Cxt D gc cf X sc → chkPs D X.N sc es ks vs = true → ∃ trs, (∀ pos, PPs X pos ks vs trs) ∧ PsRead gc cf (MX D.cl X) es trs
  | [], X, sc, ks, vs, C, h => by
    simp only [chkPs] at h
    split at h
    · refine ⟨[], fun _ => pps_nil, fun σ H Q F G θ s ts s' R e k => ?_⟩
      simp only [evEs] at e
      cases e
      exact k [] H F θ R (FLe.refl F) (List.prefix_refl _) .nil
    · cases h
  | [_], X, sc, ks, vs, C, h => by simp only [chkPs] at h; cases h
  | a :: b :: es, X, sc, ks, vs, C, h => by
    simp only [chkPs] at h
    split at h
    · rename_i kx ks' vx vs'
      obtain ⟨h1, h2⟩ := and2 h
      obtain ⟨h1, h3⟩ := and2 h1
      have pa := (sX a X sc kx C h1).pe
      have pb := (sX b X sc vx C h3).pe
      obtain ⟨trs, q1, q2⟩ := sPs es X sc ks' vs' C h2
      refine ⟨(RE gc cf (MX D.cl X) a, RE gc cf (MX D.cl X) b) :: trs, fun pos => pps_cons pa pb (q1 pos), fun σ H Q F G θ s ts s' R e k => ?_⟩
      simp only [evEs] at e
      obtain ⟨t1, s1, e1, e⟩ := Rs.bind_eq e
      obtain ⟨ts1, s2, e2, e⟩ := Rs.bind_eq e
      cases e
      obtain ⟨t2, s3, e3, e2⟩ := Rs.bind_eq e2
      obtain ⟨ts2, s4, e4, e2⟩ := Rs.bind_eq e2
      cases e2
      refine ⟨F, G, θ, s, t1, s1, R, e1, fun v H1 F1 θ1 R1 l1 p1 r1 => ⟨F1, G, θ1, s1, t2, s3, R1, e3, fun w H2 F2 θ2 R2 l2 p2 r2 => ?_⟩⟩
      refine q2 σ H2 _ F2 G θ2 s3 ts2 _ R2 e4 fun ps H3 F3 θ3 R3 l3 p3 r3 => ?_
      exact k ((v, w) :: ps) H3 F3 θ3 R3 (l1.trans (l2.trans l3)) (p1.trans (p2.trans p3)) (.cons (r1.mono (l2.trans l3) (p2.trans p3)) (.cons (r2.mono l3 p3) r3))
    · cases h
termination_by structural e => e
theorem sSts : ∀ (es : List Ex) (bs : List Bool) (X : Cx) (sc : Scope) (xs : List Expr), Cxt D gc cf X sc → chkSt D X.N sc es bs xs = true → PA X xs (RAS gc cf (MX D.cl X) es bs)
  | [], bs, X, sc, xs, C, h => by
    cases xs with
    | cons _ _ => exact nomatch h
    | nil =>
      refine ⟨fun p pins s0 σ H Q I hh => ?_⟩
      obtain ⟨F, G, θ, s, ts, s', R, ev, k⟩ := hh
      simp only [evSt] at ev
      cases ev
      exact pa_nil.run p pins s0 σ H Q I (k [] H F θ R (FLe.refl F) (List.prefix_refl _) .nil)
  | e :: es, bs, X, sc, xs, C, h => by
    cases xs with
    | nil => exact nomatch h
    | cons x xs =>
      simp only [chkSt] at h
      obtain ⟨h1, h2⟩ := and2 h
      have p2 := sSts es bs.tail X sc xs C h2
      split at h1
      · rename_i hb
        split at h1
        · rename_i y py
          have p1 := (sX e X sc y C h1).pe
          refine ⟨fun p pins s0 σ H Q I hh => ?_⟩
          obtain ⟨F, G, θ, s, ts, s', R, ev, k⟩ := hh
          simp only [evSt] at ev
          obtain ⟨t, s1, e1, ev⟩ := Rs.bind_eq ev
          rw [if_pos hb] at ev
          split at ev
          · rename_i l hl
            obtain ⟨ts', s2, e2, ev⟩ := Rs.bind_eq ev
            cases ev
            refine (StX.pa_star p1 p2 rfl).run p pins s0 σ H Q I ⟨F, G, θ, s, t, s1, R, e1, fun v H1 F1 θ1 R1 l1 p1' r1 => ?_⟩
            obtain ⟨a, zs, rfl, rr, st⟩ := R1.stable r1 hl
            have st1 := st H1 R1.m.fle (.inr R1.out.gle)
            refine ⟨a, zs, rfl, ?_, F1, G, θ1, s1, ts', _, R1, e2, fun vs H2 F2 θ2 R2 l2 p2' r2 => ?_⟩
            · by_cases hT : isTupT (s1.deref t) = true
              · rw [if_pos hT] at st1; exact .inl st1
              · rw [if_neg hT] at st1; exact .inr st1
            · exact k (zs ++ vs) H2 F2 θ2 R2 (l1.trans l2) (p1'.trans p2') ((RpVs.ofs (rr.mono l2 p2')).append r2)
          · cases ev
        · cases h1
      · rename_i hb
        obtain ⟨h1, h3⟩ := and2 h1
        have p1 := (sX e X sc x C h3).pe
        refine ⟨fun p pins s0 σ H Q I hh => ?_⟩
        obtain ⟨F, G, θ, s, ts, s', R, ev, k⟩ := hh
        simp only [evSt] at ev
        obtain ⟨t, s1, e1, ev⟩ := Rs.bind_eq ev
        rw [if_neg hb] at ev
        obtain ⟨ts', s2, e2, ev⟩ := Rs.bind_eq ev
        cases ev
        exact (pa_cons p1 p2 (star_cons (by simpa using h1))).run p pins s0 σ H Q I ⟨F, G, θ, s, t, s1, R, e1, fun v H1 F1 θ1 R1 l1 p1' r1 => ⟨F1, G, θ1, s1, ts', _, R1, e2, fun vs H2 F2 θ2 R2 l2 p2' r2 => k (v :: vs) H2 F2 θ2 R2 (l1.trans l2) (p1'.trans p2') (.cons (r1.mono l2 p2') r2)⟩⟩
termination_by structural e => e
theorem sKs : ∀ (es : List Ex) (X : Cx) (sc : Scope) (ps : List Str) (kws : List Keyword), Cxt D gc cf X sc → chkK D X.N sc es ps kws = true → PK X kws (RA gc cf (MX D.cl X) es)
  | [], X, sc, ps, kws, C, h => by
    cases kws with
    | cons _ _ =>
      simp only [chkK] at h
      split at h
      · cases h
      · cases h
    | nil =>
      refine ⟨fun p pins s0 σ H Q I hh => ?_⟩
      obtain ⟨F, G, θ, s, ts, s', R, ev, k⟩ := hh
      simp only [evEs] at ev
      cases ev
      exact pk_nil.run p pins s0 σ H Q I (k [] H F θ R (FLe.refl F) (List.prefix_refl _) .nil)
  | e :: es, X, sc, ps, kws, C, h => by
    cases ps with
    | nil => simp only [chkK] at h; cases h
    | cons p0 ps => cases kws with
      | nil => simp only [chkK] at h; cases h
      | cons kw kws =>
        obtain ⟨nm, x, kp⟩ := kw
        cases nm with
        | none => simp only [chkK] at h; cases h
        | some nm =>
        simp only [chkK] at h
        obtain ⟨h1, h2⟩ := and2 h
        obtain ⟨h1, h3⟩ := and2 h1
        have p1 := (sX e X sc x C h3).pe
        have p2 := sKs es X sc ps kws C h2
        refine ⟨fun p pins s0 σ H Q I hh => ?_⟩
        obtain ⟨F, G, θ, s, ts, s', R, ev, k⟩ := hh
        simp only [evEs] at ev
        obtain ⟨t, s1, e1, ev⟩ := Rs.bind_eq ev
        obtain ⟨ts', s2, e2, ev⟩ := Rs.bind_eq ev
        cases ev
        exact (pk_cons p1 p2).run p pins s0 σ H Q I ⟨F, G, θ, s, t, s1, R, e1, fun v H1 F1 θ1 R1 l1 p1' r1 => ⟨F1, G, θ1, s1, ts', _, R1, e2, fun vs H2 F2 θ2 R2 l2 p2' r2 => k (v :: vs) H2 F2 θ2 R2 (l1.trans l2) (p1'.trans p2') (.cons (r1.mono l2 p2') r2)⟩⟩
termination_by structural e => e
theorem sAl : ∀ (es : List Ex) (X : Cx) (sc : Scope), Cxt D gc cf X sc → ∀ (e : Ex) (x : Expr), es = [e] → chk D X.N sc e x = true → Snd D gc cf X e x
  | [], X, sc, C, e, x, he, h => nomatch he
  | e1 :: _, X, sc, C, e, x, he, h => (List.cons.inj he).1 ▸ sX e1 X sc x C (by rw [(List.cons.inj he).1]; exact h)
termination_by structural e => e
theorem sEs : ∀ (es : List Ex) (X : Cx) (sc : Scope) (xs : List Expr), Cxt D gc cf X sc → chks D X.N sc es xs = true → PA X xs (RA gc cf (MX D.cl X) es)
  | [], X, sc, xs, C, h => by
    cases xs with
    | cons _ _ => exact nomatch h
    | nil =>
      refine ⟨fun p pins s0 σ H Q I hh => ?_⟩
      obtain ⟨F, G, θ, s, ts, s', R, ev, k⟩ := hh
      simp only [evEs] at ev
      cases ev
      exact pa_nil.run p pins s0 σ H Q I (k [] H F θ R (FLe.refl F) (List.prefix_refl _) .nil)
  | e :: es, X, sc, xs, C, h => by
    cases xs with
    | nil => exact nomatch h
    | cons x xs =>
      simp only [chks] at h
      obtain ⟨h1, h2⟩ := and2 h
      obtain ⟨h1, h3⟩ := and2 h1
      have p1 := (sX e X sc x C h3).pe
      have p2 := sEs es X sc xs C h2
      refine ⟨fun p pins s0 σ H Q I hh => ?_⟩
      obtain ⟨F, G, θ, s, ts, s', R, ev, k⟩ := hh
      simp only [evEs] at ev
      obtain ⟨t, s1, e1, ev⟩ := Rs.bind_eq ev
      obtain ⟨ts', s2, e2, ev⟩ := Rs.bind_eq ev
      cases ev
      exact (pa_cons p1 p2 (star_cons (by simpa using h1))).run p pins s0 σ H Q I ⟨F, G, θ, s, t, s1, R, e1, fun v H1 F1 θ1 R1 l1 p1' r1 => ⟨F1, G, θ1, s1, ts', _, R1, e2, fun vs H2 F2 θ2 R2 l2 p2' r2 => k (v :: vs) H2 F2 θ2 R2 (l1.trans l2) (p1'.trans p2') (.cons (r1.mono l2 p2') r2)⟩⟩
termination_by structural e => e
end
end
end Ev
/-! Soundness of statements: the parts. -/
namespace Ev
open PySem PySem.Spec L2
open PyProof.Rows hiding St
section
variable {D : Ds} {gc : Nat → Option Tr} {cf : CF} {wf : Nat} {X : Cx} {sc : Scope} {K : Mx} {F F' G H : Hp} {θ θ' : List Addr} {s : Sta} {σ : St}
/-- less is guarded -/
theorem Rel.weakG {G' : Hp} (R : Rel K F G' θ s σ H) (h : FLe G G') : Rel K F G θ s σ H := by
  refine ⟨⟨R.m.fle, h.trans R.m.gle, fun a o e => R.m.fg a o (h a o e), R.m.len, R.m.nd, fun a o e => R.m.gt a o (h a o e), R.m.al, fun n o e hg => ?_⟩, R.len, fun i x e => ?_, R.dis⟩
  · obtain ⟨a, h1, h2, h3, h4⟩ := R.m.ob n o e hg
    exact ⟨a, h1, h2, h.none h3, h4⟩
  · have r := R.slot i x e
    cases x with
    | none => exact r
    | val t => exact r
    | own l => obtain ⟨a, xs, e1, h1, f, g, t, q⟩ := r; exact ⟨a, xs, e1, h1, f, h.none g, t, q⟩
/-- what is wanted behind a statement -/
noncomputable def Aft (K : Mx) (F G : Hp) (θ : List Addr) (s' : Sta) (D' : Ends) : Fl → Prop
  | .next => ∀ σ' H' F' θ', Rel K F' G θ' s' σ' H' → FLe F F' → θ <+: θ' → D'.nx σ' H'
  | .brk => ∀ σ' H' F' θ', Rel K F' G θ' s' σ' H' → FLe F F' → θ <+: θ' → D'.bk σ' H'
  | .cont => ∀ σ' H' F' θ', Rel K F' G θ' s' σ' H' → FLe F F' → θ <+: θ' → D'.ct σ' H'
  | .ret t => ∀ v σ' H' F' θ', Rel K F' G θ' s' σ' H' → FLe F F' → θ <+: θ' → Rp K F' θ' t v → D'.rt v H'
theorem Aft.mono {G : Hp} {s' : Sta} {D' : Ends} {fl : Fl} (h : Aft K F G θ s' D' fl) (l : FLe F F') (p : θ <+: θ') : Aft K F' G θ' s' D' fl := by
  cases fl with
  | next => exact fun σ' H' F2 θ2 R l' p' => h σ' H' F2 θ2 R (l.trans l') (p.trans p')
  | brk => exact fun σ' H' F2 θ2 R l' p' => h σ' H' F2 θ2 R (l.trans l') (p.trans p')
  | cont => exact fun σ' H' F2 θ2 R l' p' => h σ' H' F2 θ2 R (l.trans l') (p.trans p')
  | ret t => exact fun v σ' H' F2 θ2 R l' p' r => h v σ' H' F2 θ2 R (l.trans l') (p.trans p') r
section
variable (gc : Nat → Option Tr) (cf : CF) (wf : Nat)
noncomputable def RS (K : Mx) (st : Sm) : TS := fun D' σ H => ∃ F G θ s fl s', Rel K F G θ s σ H ∧ exS gc cf wf st s = .ok fl s' ∧ Aft K F G θ s' D' fl
noncomputable def RSs (K : Mx) (st : List Sm) : TS := fun D' σ H => ∃ F G θ s fl s', Rel K F G θ s σ H ∧ exSs gc cf wf st s = .ok fl s' ∧ Aft K F G θ s' D' fl
end
/-! ### the swapped stores, for a def's names -/
noncomputable def namesOf (sc : Scope) (line : Nat) (ts : List Expr) : List Str := ts.filterMap fun
  | .Name id pos => if sc.names.lookup id == some .local && pos.line == line then some id else none
  | _ => none
noncomputable def swQ (sc : Scope) (ts vs : List Expr) : Option (Option (List Str)) :=
  if !(ts.length == 2 || ts.length == 3) || vs.length != ts.length then some none
  else if vs.any isStar then some none
  else if (namesOf sc ((ts.head?.map (·.pos.line)).getD 0) ts).length != ts.length || (namesOf sc ((ts.head?.map (·.pos.line)).getD 0) ts).eraseDups.length != (namesOf sc ((ts.head?.map (·.pos.line)).getD 0) ts).length then some none
  else if vs.all (foldedForSure 8) then some none
  else if vs.all (constantsAlone 8) then none
  else some (some (namesOf sc ((ts.head?.map (·.pos.line)).getD 0) ts))
theorem swQ_ok {env : Env} {ts vs : List Expr} {k k2 : Nat} {p p2 : Pos} {r : Option (List Str)} (hk : env.scope.kind = .function) (h : swQ env.scope ts vs = some r) : swappedStores [.Tuple ts k p] (.Tuple vs k2 p2) env = pure r := by
  have hb : (env.blockKind != .function) = false := by unfold Env.blockKind; rw [hk]; rfl
  have en : (ts.filterMap fun
    | .Name id pos => if env.kindOf id == some .local && pos.line == (ts.head?.map (·.pos.line)).getD 0 then some id else none
    | _ => none) = namesOf env.scope ((ts.head?.map (·.pos.line)).getD 0) ts := rfl
  unfold swappedStores
  simp only [hb, Bool.or_false]
  have key : ∀ f : Expr → Bool, (∀ e, f e = isStar e) → vs.any f = vs.any isStar := fun f hf => by
    have : f = isStar := funext hf
    rw [this]
  rw [key _ (by intro e; cases e <;> rfl)]
  unfold swQ at h
  split at h
  · rename_i c1
    cases h
    exact if_pos c1
  · rename_i c1
    refine (if_neg c1).trans ?_
    split at h
    · rename_i c2
      cases h
      exact if_pos c2
    · rename_i c2
      refine (if_neg c2).trans ?_
      split at h
      · rename_i c3
        cases h
        exact if_pos c3
      · rename_i c3
        refine (if_neg c3).trans ?_
        split at h
        · rename_i c4
          cases h
          exact if_pos c4
        · rename_i c4
          refine (if_neg c4).trans ?_
          split at h
          · cases h
          · rename_i c5
            cases h
            exact if_neg c5
end
end Ev
/-! Soundness of statements: each kind. -/
namespace Ev
open PySem PySem.Spec L2
open PyProof.Rows hiding St
section
variable {D : Ds} {gc : Nat → Option Tr} {cf : CF} {wf : Nat} {X : Cx} {sc : Scope} {K : Mx} {F F' G H : Hp} {θ θ' : List Addr} {s : Sta} {σ : St}
noncomputable def isCompE : Expr → Bool
  | .ListComp .. => true
  | .SetComp .. => true
  | .DictComp .. => true
  | _ => false
theorem swaps_no {v : Expr} {t : Option Expr} {l : Nat} {env : Env} (h : isCompE v = false) : swapsWith v t l env = pure false := by
  cases v <;> first | rfl | (exact nomatch h)
theorem Rel.p0 (θ : List Addr) : θ <+: θ := List.prefix_refl θ
theorem sSet (C : Cxt D gc cf X sc) {i : Nat} {e : Ex} {x : Str} {px pos : Pos} {v : Expr} (hN : X.N[i]? = some x) (hl : locB sc x = true) (he : PE X v (RE gc cf (MX D.cl X) e)) (hv : isCompE v = false) : PS X (.Assign [.Name x px] v pos) (RS gc cf wf (MX D.cl X) (.set i e)) := by
  obtain ⟨h1, h2⟩ := C.loc x hl
  refine ⟨fun pins s0 σ H D' I hh => ?_⟩
  obtain ⟨F, G, θ, s, fl, s', R, ev, k⟩ := hh
  simp only [exS] at ev
  obtain ⟨t, s1, e1, ev⟩ := Rs.bind_eq ev
  split at ev
  · rename_i hc
    obtain ⟨h3, h4⟩ := and2 hc
    cases ev
    exact (ps_set C.nd hN h1 he (swaps_no hv) h2).run pins s0 σ H D' I ⟨F, G, θ, s, t, s1, R, e1, fun v H1 F1 θ1 R1 l1 p1 r1 => k _ H1 F1 θ1 (R1.store (r1.rp h3) (of_decide_eq_true h4)) l1 p1⟩
  · cases ev
theorem sSetC (C : Cxt D gc cf X sc) {i : Nat} {e : Ex} {st : Stmt} {t : TE} (hp : PS X st (tAsg t (gName i))) (hr : ∀ {σ : St} {H : Hp} {Q : VK}, RE gc cf (MX D.cl X) e σ H Q → t σ H Q) : PS X st (RS gc cf wf (MX D.cl X) (.set i e)) := by
  refine ⟨fun pins s0 σ H D' I hh => ?_⟩
  obtain ⟨F, G, θ, s, fl, s', R, ev, k⟩ := hh
  simp only [exS] at ev
  obtain ⟨t, s1, e1, ev⟩ := Rs.bind_eq ev
  split at ev
  · rename_i hc
    obtain ⟨h3, h4⟩ := and2 hc
    cases ev
    exact hp.run pins s0 σ H D' I (hr ⟨F, G, θ, s, t, s1, R, e1, fun v H1 F1 θ1 R1 l1 p1 r1 => k _ H1 F1 θ1 (R1.store (r1.rp h3) (of_decide_eq_true h4)) l1 p1⟩)
  · cases ev
/-- a fresh list at p becomes the own list of slot i -/
theorem Rel.ownNew {i : Nat} {l : Ob} {xs : HO} {p : Addr} (R : Rel K F G θ s σ H) (n : H p = none) (r : RpB K F θ p l xs) (hi : i < s.env.length) : Rel K F G θ ⟨s.env.set i (.own l), s.mem⟩ (σ.set i (some (.ref p))) (upd H p xs) := by
  refine (R.junk (o := xs) n).storeOwn r upd_same (R.m.fle.none n) (R.m.gle.none n) (R.m.noTh n) (fun j l' _ e z => ?_) hi
  obtain ⟨zs, q, _⟩ := R.ownAt e z
  rw [n] at q
  cases q
theorem sOwn (C : Cxt D gc cf X sc) {i : Nat} {es : List Ex} {x : Str} {px p2 pos : Pos} {xs : List Expr} (hN : X.N[i]? = some x) (hl : locB sc x = true) (he : PA X xs (RA gc cf (MX D.cl X) es)) : PS X (.Assign [.Name x px] (.List xs p2) pos) (RS gc cf wf (MX D.cl X) (.own i es)) := by
  obtain ⟨h1, h2⟩ := C.loc x hl
  refine ⟨fun pins s0 σ H D' I hh => ?_⟩
  obtain ⟨F, G, θ, s, fl, s', R, ev, k⟩ := hh
  simp only [exS] at ev
  obtain ⟨ts, s1, e1, ev⟩ := Rs.bind_eq ev
  split at ev
  · rename_i hc
    obtain ⟨h3, h4⟩ := and2 hc
    obtain ⟨h5, h6⟩ := and2 h3
    cases ev
    refine (ps_set C.nd hN h1 (pe_lst he) rfl h2).run pins s0 σ H D' I ⟨F, G, θ, s, ts, s1, R, e1, fun vs H1 F1 θ1 R1 l1 p1 r1 => ?_⟩
    have r := r1.rps h5
    exact ⟨by rw [r.length]; exact of_decide_eq_true h6, fun p np => k _ _ F1 θ1 (R1.ownNew (l := .lst ts) np ⟨_, rfl, r⟩ (of_decide_eq_true h4)) l1 p1⟩
  · cases ev
theorem sOwnOf (C : Cxt D gc cf X sc) {i : Nat} {e : Ex} {x : Str} {px p2 p3 pos : Pos} {z : Expr} (hN : X.N[i]? = some x) (hl : locB sc x = true) (hg : Gl X "list") (hm : X.mg "list" = none) (he : PE X z (RE gc cf (MX D.cl X) e)) (hst : isStar z = false) : PS X (.Assign [.Name x px] (.Call (.Name "list" p2) [z] [] p3) pos) (RS gc cf wf (MX D.cl X) (.ownOf i e)) := by
  obtain ⟨h1, h2⟩ := C.loc x hl
  refine ⟨fun pins s0 σ H D' I hh => ?_⟩
  obtain ⟨F, G, θ, s, fl, s', R, ev, k⟩ := hh
  simp only [exS] at ev
  obtain ⟨t, s1, e1, ev⟩ := Rs.bind_eq ev
  split at ev
  · rename_i l e2
    split at ev
    · rename_i hi
      cases ev
      refine (ps_set C.nd hN h1 (pe_callTy (T := "list") call_list_of hg hm (by decide +kernel) (pa_cons he pa_nil (star_cons hst)) (by decide) (by decide) (star_cons hst) (by rfl)) rfl h2).run pins s0 σ H D' I ⟨F, G, θ, s, t, s1, R, e1, fun v H1 F1 θ1 R1 l1 p1 r1 => ?_⟩
      have hp : (s1.deref t).pure = true := by
        cases e3 : s1.deref t <;> first | rfl | (rw [e3] at e2; exact nomatch e2)
      obtain ⟨a, xs, rfl, q, r⟩ := seqH R1.m.fle e2 (R1.read r1 hp)
      exact ⟨a, xs, rfl, q, fun p np => k _ _ F1 θ1 (R1.ownNew (l := .lst l) np ⟨_, rfl, r⟩ hi) l1 p1⟩
    · cases ev
  · cases ev
noncomputable def isTupE : Expr → Bool
  | .Tuple .. => true
  | _ => false
theorem sTgt (C : Cxt D gc cf X sc) {tg : Tg} {e : Ex} {t v : Expr} {pos : Pos} (ht : chkT X.N sc tg t = true) (htp : isTp tg = true) (he : PE X v (RE gc cf (MX D.cl X) e)) (hv : ∀ es kk p, t = .Tuple es kk p → swappedStores [.Tuple es kk p] v X.env = pure none) : PS X (.Assign [t] v pos) (RS gc cf wf (MX D.cl X) (.tgt tg e)) := by
  obtain ⟨es, kk, p, rfl⟩ : ∃ es kk p, t = .Tuple es kk p := by
    cases tg with
    | nm i => cases htp
    | tp gs =>
      simp only [chkT] at ht
      split at ht
      · exact ⟨_, _, _, rfl⟩
      · cases ht
  have h1 : swapsWithSole [.Tuple es kk p] v pos.line X.env = pure false := by cases v <;> rfl
  have h2 := hv es kk p rfl
  refine ⟨fun pins s0 σ H D' I hh => ?_⟩
  obtain ⟨F, G, θ, s, fl, s', R, ev, k⟩ := hh
  simp only [exS] at ev
  obtain ⟨t, s1, e1, ev⟩ := Rs.bind_eq ev
  split at ev
  · rename_i env e2
    cases ev
    have tp : t.pure = true := by
      cases tg with
      | nm i => cases htp
      | tp gs => cases t <;> first | rfl | (simp only [asg] at e2; cases e2)
    exact (ps_asg he (sT (cl := D.cl) C.nd C.calm C.loc tg _ ht) h1 h2 (by rfl)).run pins s0 σ H D' I ⟨F, G, θ, s, t, s1, R, e1, fun v H1 F1 θ1 R1 l1 p1 r1 => ⟨F1, G, θ1, s1.env, s1.mem, t, env, R1, r1.rp tp, e2, fun σ' R' _ => k σ' H1 F1 θ1 R' l1 p1⟩⟩
  · cases ev
theorem sAug (C : Cxt D gc cf X sc) {i : Nat} {o : Op} {e : Ex} {x : Str} {px pos : Pos} {v : Expr} (hN : X.N[i]? = some x) (hl : locB sc x = true) (ho : o = .add ∨ o = .sub) (he : PE X v (RE gc cf (MX D.cl X) e)) : PS X (.AugAssign (.Name x px) o.py v pos) (RS gc cf wf (MX D.cl X) (.aug i o e)) := by
  obtain ⟨h1, h2⟩ := C.loc x hl
  refine ⟨fun pins s0 σ H D' I hh => ?_⟩
  obtain ⟨F, G, θ, s, fl, s', R, ev, k⟩ := hh
  simp only [exS] at ev
  split at ev
  · rename_i n en
    obtain ⟨t, s1, e1, ev⟩ := Rs.bind_eq ev
    obtain ⟨w, ew, rw'⟩ := R.slot i _ en
    cases rw'
    have hi : i < s.env.length := (List.getElem?_eq_some_iff.mp en).1
    split at ev
    · rename_i m hh9
      cases ev
      refine (ps_aug C.nd hN h1 he (fun pins s σ H x y v u Q I rx ry h => iop_add pins s σ H x y v u Q I rx ry h) h2).run pins s0 σ H D' I ⟨_, ew, F, G, θ, s, _, s1, R, e1, fun v H1 F1 θ1 R1 l1 p1 r1 => ?_⟩
      cases (show Rp _ _ _ _ _ from r1)
      exact ⟨n, m, rfl, rfl, k _ H1 F1 θ1 (R1.store (.int _) (by rw [R1.len, ← R.len]; exact hi)) l1 p1⟩
    · rename_i m hh9
      cases ev
      refine (ps_aug C.nd hN h1 he (fun pins s σ H x y v u Q I rx ry h => iop_sub pins s σ H x y v u Q I rx ry h) h2).run pins s0 σ H D' I ⟨_, ew, F, G, θ, s, _, s1, R, e1, fun v H1 F1 θ1 R1 l1 p1 r1 => ?_⟩
      cases (show Rp _ _ _ _ _ from r1)
      exact ⟨n, m, rfl, rfl, k _ H1 F1 θ1 (R1.store (.int _) (by rw [R1.len, ← R.len]; exact hi)) l1 p1⟩
    · cases ev
  · cases ev
theorem sPut (C : Cxt D gc cf X sc) {o kk v : Ex} {a b w : Expr} {p pos : Pos} (hb : isSlice b = false) (ho : PE X a (RE gc cf (MX D.cl X) o)) (hk : PE X b (RE gc cf (MX D.cl X) kk)) (hv : PE X w (RE gc cf (MX D.cl X) v)) : PS X (.Assign [.Subscript a b p] w pos) (RS gc cf wf (MX D.cl X) (.put o kk v)) := by
  have h1 : swapsWithSole [.Subscript a b p] w pos.line X.env = pure false := by cases w <;> rfl
  refine ⟨fun pins s0 σ H D' I hh => ?_⟩
  obtain ⟨F, G, θ, s, fl, s', R, ev, k⟩ := hh
  simp only [exS] at ev
  obtain ⟨t, s1, e1, ev⟩ := Rs.bind_eq ev
  obtain ⟨x, s2, e2, ev⟩ := Rs.bind_eq ev
  obtain ⟨y, s3, e3, ev⟩ := Rs.bind_eq ev
  split at ev
  · rename_i n i hh9
    split at ev
    · rename_i l el
      split at ev
      · rename_i j ej
        split at ev
        · rename_i tp
          cases ev
          refine (ps_asg hv (pg_sub ho hk set_list (by intro z; cases b <;> first | rfl | (exact nomatch hb))) h1 (by rfl) (by rfl)).run pins s0 σ H D' I ⟨F, G, θ, s, t, s1, R, e1, fun v1 H1 F1 θ1 R1 l1 p1 r1 => ⟨F1, G, θ1, s1, _, s2, R1, e2, fun v2 H2 F2 θ2 R2 l2 p2 r2 => ⟨F2, G, θ2, s2, _, s3, R2, e3, fun v3 H3 F3 θ3 R3 l3 p3 r3 => ?_⟩⟩⟩
          have r2' := (show Rp _ _ _ _ _ from r2).mono l3 p3
          cases (show Rp _ _ _ _ _ from r3)
          cases r2' with
          | ob hn =>
            obtain ⟨a', q1, q2, q3, zs, q4, q5⟩ := R3.m.ob n _ el (fun z => nomatch z)
            rw [hn] at q1
            cases q1
            obtain ⟨zs, rfl, q5⟩ := q5
            have rt := (r1.rp tp).mono (l2.trans l3) (p2.trans p3)
            exact ⟨_, zs, i, j, rfl, rfl, q4, by rw [q5.length]; exact ej, k _ _ F3 θ3 (R3.memUpd (l' := .lst (l.set j t)) el (fun z => nomatch z) hn ⟨_, rfl, q5.set rt j⟩) (l1.trans (l2.trans l3)) (p1.trans (p2.trans p3))⟩
        · cases ev
      · cases ev
    · cases ev
  · cases ev
set_option maxRecDepth 8000 in
theorem extW (l : Addr) (items : Array Value) (n : Nat) (b : Addr) (items2 : Array Value) (n2 : Nat) (dd : Option Addr) (sl : Array (Option Value)) (hs0 : ¬(!items.isEmpty && Builtin.List.listTooLong (items.size + items2.size)) = true) (hs1 : items.size ≤ sizeLine) (hs2 : items.size + items2.size ≤ sizeLine + 1) :
    Meets (Builtin.«list.extend» ⟨[.ref l, .ref b], []⟩) (fun _ R s => s.heap.get? l = some { cls := .type "list", dict := none, data := .seq items n, slots := #[] } ∧ s.heap.get? b = some { cls := .type "tuple", dict := dd, data := .seq items2 n2, slots := sl } ∧ R (.ok (.ret Value.none)) { s with heap := s.heap.update l (Obj.mapSeq fun x => x ++ items2), toks := s.toks }) :=
  .of_wp fun prog w A R s h => by
    obtain ⟨hp, g, d, tk, os⟩ := s; obtain ⟨hl, hb, h⟩ := h; have f1 := PySem.AutoSeq1.idx_int; have f2 := PySem.AutoSeq1.sub_tuple_tuple; have f3 := PySem.AutoSeq1.sub_list_list; have f4 := PySem.AutoSeq1.sub_tuple_list; have f5 := PySem.AutoSeq1.sub_list_tuple
    have hz' : (items ++ items2).size ≤ sizeLine + 1 := by rw [Array.size_append]; exact hs2
    wp_walk using (wpAny_updateSeq hl rfl (hz := hs1) (_hz' := hz')), PySem.AutoSeq1.wpAny_loadPart' hl, PySem.AutoSeq1.wpAny_loadPart' hb; exact ⟨_, rfl, h⟩
theorem mt_extendT : MtM X "list.extend" (fun x vs H Q => ∃ l b xs zs, x = .ref l ∧ vs = [.ref b] ∧ H l = some (.lst xs) ∧ SqT X.K H b zs ∧ xs.length + zs.length ≤ sizeLine ∧ Q .non (upd H l (.lst (xs ++ zs)))) := by
  intro pins s σ H x vs v us Q I rx rv h
  obtain ⟨l, b, xs, zs, rfl, rfl, hH, hB, hz, q⟩ := h
  cases rx
  obtain ⟨u, rfl, ru⟩ := rv.one
  cases ru
  obtain ⟨z, its, n, r, hl, e⟩ := I.lstM hH
  obtain ⟨its2, r2, ⟨⟨cls, dd, data, sl⟩, e2, hc, n2, hd⟩, hl2⟩ := I.tuple hB
  simp only at hc hd
  subst hc hd
  have len2' := r2.length
  have hsz : its.toArray.size + its2.toArray.size ≤ sizeLine := by rw [List.size_toArray, List.size_toArray]; omega
  have hlong : ¬ (!its.toArray.isEmpty && Builtin.List.listTooLong (its.toArray.size + its2.toArray.size)) = true := by
    rw [notLongL hsz, Bool.and_false]
    exact Bool.false_ne_true
  refine call_meets PySem.F.slot_list_extend ⟨_, e, rfl⟩ PySem.F.entry_list_extend (PySem.F.args_list_extend_2 _ _)
    (extW l its.toArray n b its2.toArray n2 dd sl hlong (by rw [List.size_toArray]; omega) (by omega)) ⟨e, e2, ?_⟩
  refine ⟨.non, _, I.lset (its' := its ++ its2) hH e (by simp) (r.append r2) ?_, rfl, q⟩
  rw [List.length_append]
  omega
/-! dicts, attributes, items of own lists -/
theorem set_dictD (hu : X.A.units + 64 < cLine) : PSet X (fun o i v H Q => ∃ a H', o = .ref a ∧ DP X.prog X.w X.K H a i v H' ∧ Q H') := by
  intro pins s σ H o i v ov iv u Q I ro ri rv h
  obtain ⟨a, H', rfl, g, q⟩ := h
  obtain rfl : ov = Value.ref a := ro
  exact g_setItem (by omega) I g ri rv fun s' I' => ⟨H', I', q⟩
theorem putV_any {κ : Type} [DecidableEq κ] (k : κ) (kvs : List (κ × V)) : ((kvs.map (·.1)).any fun x => decide (x = k)) = kvs.any fun kv => decide (kv.1 = k) := by
  rw [List.any_map]; rfl
theorem putV_ok {κ : Type} [DecidableEq κ] {k : κ} {t : Tr} {v : V} (r : Rp K F θ t v) {kvs : List (κ × V)} {vs : List Tr} (h : Rps K F θ vs (kvs.map (·.2))) :
    (putK kvs k v).map (·.1) = (putV (kvs.map (·.1)) vs k t).1 ∧ Rps K F θ (putV (kvs.map (·.1)) vs k t).2 ((putK kvs k v).map (·.2)) := by
  unfold putV putK
  rw [putV_any]
  split
  · constructor
    · rw [List.map_map]
      apply List.map_congr_left
      intro p _
      show (if p.1 = k then (p.1, v) else p).1 = p.1
      split <;> rfl
    · have go : ∀ {kvs : List (κ × V)} {vs : List Tr}, Rps K F θ vs (kvs.map (·.2)) → Rps K F θ (List.zipWith (fun k' v' => if k' = k then t else v') (kvs.map (·.1)) vs) ((kvs.map fun kv => if kv.1 = k then (kv.1, v) else kv).map (·.2)) := by
        intro kvs
        induction kvs with
        | nil => intro vs h; cases h; exact .nil
        | cons p kvs ih =>
          intro vs h
          cases h with
          | cons h1 h2 =>
            rw [List.map_cons, List.map_cons, List.map_cons, List.zipWith_cons_cons]
            refine .cons ?_ (ih h2)
            show Rp K F θ (if p.1 = k then t else _) (if p.1 = k then (p.1, v) else p).2
            split
            · exact r
            · exact h1
      exact go h
  · exact ⟨by rw [List.map_append]; rfl, by rw [List.map_append]; exact h.append (.cons r .nil)⟩
theorem setF_ok {f : Str} {t : Tr} {v : V} (r : Rp K F θ t v) : ∀ {fs : List (Str × V)} {l : List Tr}, Rps K F θ l (fs.map (·.2)) → (putF f v fs).map (·.1) = (setF (fs.map (·.1)) l f t).1 ∧ Rps K F θ (setF (fs.map (·.1)) l f t).2 ((putF f v fs).map (·.2))
  | [], l, h => by
    cases h
    exact ⟨rfl, .cons r .nil⟩
  | (g, x) :: fs, l, h => by
    cases h with
    | cons h1 h2 =>
      obtain ⟨i1, i2⟩ := setF_ok (f := f) r h2
      rw [show putF f v ((g, x) :: fs) = (if g = f then (g, v) :: fs else (g, x) :: putF f v fs) from rfl]
      simp only [List.map_cons, setF]
      split
      · exact ⟨rfl, .cons r h2⟩
      · exact ⟨by rw [List.map_cons, i1], .cons h1 i2⟩
theorem sOwnD (C : Cxt D gc cf X sc) {i : Nat} {t : Bool} {x : Str} {px p2 pos : Pos} (hN : X.N[i]? = some x) (hl : locB sc x = true) : PS X (.Assign [.Name x px] (.Dict [] [] p2) pos) (RS gc cf wf (MX D.cl X) (.ownD i t)) := by
  obtain ⟨h1, h2⟩ := C.loc x hl
  refine ⟨fun pins s0 σ H D' I hh => ?_⟩
  obtain ⟨F, G, θ, s, fl, s', R, ev, k⟩ := hh
  simp only [exS] at ev
  split at ev
  · rename_i hi
    cases ev
    cases t with
    | false => exact (ps_set C.nd hN h1 pe_dnewK rfl h2).run pins s0 σ H D' I fun p np => k _ _ F θ (R.ownNew (l := .dk [] []) np ⟨[], rfl, rfl, .nil⟩ hi) (FLe.refl F) (List.prefix_refl _)
    | true => exact (ps_set C.nd hN h1 pe_dnewT' rfl h2).run pins s0 σ H D' I fun p np => k _ _ F θ (R.ownNew (l := .dt [] []) np ⟨[], rfl, rfl, .nil, fun p hp => by cases hp⟩ hi) (FLe.refl F) (List.prefix_refl _)
  · cases ev
theorem sDput (C : Cxt D gc cf X sc) {i : Nat} {kk v : Ex} {x : Str} {b w : Expr} {px p pos : Pos} (hN : X.N[i]? = some x) (hv' : Vis X.env.scope x) (hkn : okN x = true) (hb : isSlice b = false) (hk : PE X b (RE gc cf (MX D.cl X) kk)) (hv : PE X w (RE gc cf (MX D.cl X) v)) : PS X (.Assign [.Subscript (.Name x px) b p] w pos) (RS gc cf wf (MX D.cl X) (.dput i kk v)) := by
  obtain ⟨k1, k2⟩ := okN_ok hkn
  have h1 : swapsWithSole [.Subscript (.Name x px) b p] w pos.line X.env = pure false := by cases w <;> rfl
  refine ⟨fun pins s0 σ H D' I hh => ?_⟩
  obtain ⟨F, G, θ, s, fl, s', R, ev, k⟩ := hh
  simp only [exS] at ev
  obtain ⟨t, s1, e1, ev⟩ := Rs.bind_eq ev
  split at ev <;> first | (cases ev; done) | skip
  rename_i o1 en1
  obtain ⟨y, s2, e2, ev⟩ := Rs.bind_eq ev
  refine (ps_asg hv (pg_sub (pe_var (i := i) hN hv' k1 k2) hk (set_dictD C.u64) (by intro z; cases b <;> first | rfl | (exact nomatch hb))) h1 (by rfl) (by rfl)).run pins s0 σ H D' I ⟨F, G, θ, s, t, s1, R, e1, fun v1 H1 F1 θ1 R1 l1 p1 r1 => ?_⟩
  obtain ⟨a, oh, ea, _⟩ := R1.slot i _ en1
  refine ⟨_, ea, F1, G, θ1, s1, y, s2, R1, e2, fun v2 H2 F2 θ2 R2 l2 p2 r2 => ?_⟩
  split at ev
  · rename_i ks vs en2
    split at ev
    · rename_i key ek
      split at ev
      · rename_i hc
        obtain ⟨h3, h4⟩ := and2 hc
        have h4 := of_decide_eq_true h4
        cases ev
        obtain ⟨o, hx, f, g, tt, kvs, rfl, q1, q2⟩ := R2.ownAt en2 ea
        subst q1
        have py : y.pure = true := by cases y <;> first | rfl | cases ek
        obtain ⟨z1, z2⟩ := putV_ok (k := key) ((r1.rp h3).mono l2 p2) q2
        refine ⟨a, _, rfl, .inl ⟨kvs, key, hx, keyT_ok ek (RpH.of R2.m.fle (r2.rp py)), by rw [List.length_map] at h4; exact h4, rfl⟩, ?_⟩
        exact k _ _ F2 θ2 (R2.ownUpd (l' := .dk _ _) en2 ea ⟨_, rfl, z1, z2⟩) (l1.trans l2) (p1.trans p2)
      · cases ev
    · cases ev
  · rename_i ks vs en2
    split at ev
    · rename_i l
      split at ev
      · rename_i key ek
        split at ev
        · rename_i hc
          obtain ⟨h3, h4⟩ := and2 hc
          have h4 := of_decide_eq_true h4
          cases ev
          obtain ⟨o, hx, f, g, tt, kvs, rfl, q1, q2, q3⟩ := R2.ownAt en2 ea
          subst q1
          cases (show Rp _ _ _ _ _ from r2) with
          | tup hq hr =>
            obtain rfl := keysT_ok R2.m.fle ek hr
            obtain ⟨z1, z2, z3⟩ := putD_ok ((r1.rp h3).mono l2 p2) hq q2 q3
            refine ⟨a, _, rfl, .inr (.inl ⟨kvs, key, _, hx, fun p hp => R2.m.fle.tup (q3 p hp), rfl, R2.m.fle.tup hq, by rw [List.length_map] at h4; exact h4, rfl⟩), ?_⟩
            exact k _ _ F2 θ2 (R2.ownUpd (l' := .dt _ _) en2 ea ⟨_, rfl, z1, z2, z3⟩) (l1.trans l2) (p1.trans p2)
        · cases ev
      · cases ev
    · cases ev
  · rename_i ks vs en2
    split at ev
    · rename_i key ek
      split at ev
      · rename_i hc
        obtain ⟨h3, h4⟩ := and2 hc
        have h4 := of_decide_eq_true h4
        cases ev
        obtain ⟨o, hx, f, g, tt, kvs, rfl, q1, q2, q3⟩ := R2.ownAt en2 ea
        subst q1
        have py : y.pure = true := by cases y <;> first | rfl | cases ek
        obtain ⟨b9, rfl, hd9, hb9⟩ := nkey_ok ek (RpH.of R2.m.fle (r2.rp py))
        obtain ⟨z1, z2, z3⟩ := putN_ok ((r1.rp h3).mono l2 p2) ⟨hd9, hb9⟩ q2 q3
        refine ⟨a, _, rfl, .inr (.inr ⟨kvs, key, b9, hx, fun p hp => ⟨(q3 p hp).1, KN.mono R2.m.fle _ _ (q3 p hp).2⟩, rfl, ⟨hd9, KN.mono R2.m.fle _ _ hb9⟩, by rw [List.length_map] at h4; exact h4, rfl⟩), ?_⟩
        exact k _ _ F2 θ2 (R2.ownUpd (l' := .dn _ _) en2 ea ⟨_, rfl, z1, z2, z3⟩) (l1.trans l2) (p1.trans p2)
      · cases ev
    · cases ev
  · cases ev
theorem sSetAt (C : Cxt D gc cf X sc) {i : Nat} {kk v : Ex} {x : Str} {b w : Expr} {px p pos : Pos} (hN : X.N[i]? = some x) (hv' : Vis X.env.scope x) (hkn : okN x = true) (hb : isSlice b = false) (hk : PE X b (RE gc cf (MX D.cl X) kk)) (hv : PE X w (RE gc cf (MX D.cl X) v)) : PS X (.Assign [.Subscript (.Name x px) b p] w pos) (RS gc cf wf (MX D.cl X) (.setAt i kk v)) := by
  obtain ⟨k1, k2⟩ := okN_ok hkn
  have h1 : swapsWithSole [.Subscript (.Name x px) b p] w pos.line X.env = pure false := by cases w <;> rfl
  refine ⟨fun pins s0 σ H D' I hh => ?_⟩
  obtain ⟨F, G, θ, s, fl, s', R, ev, k⟩ := hh
  simp only [exS] at ev
  obtain ⟨t, s1, e1, ev⟩ := Rs.bind_eq ev
  split at ev <;> first | (cases ev; done) | skip
  rename_i o1 en1
  obtain ⟨y, s2, e2, ev⟩ := Rs.bind_eq ev
  refine (ps_asg hv (pg_sub (pe_var (i := i) hN hv' k1 k2) hk set_list (by intro z; cases b <;> first | rfl | (exact nomatch hb))) h1 (by rfl) (by rfl)).run pins s0 σ H D' I ⟨F, G, θ, s, t, s1, R, e1, fun v1 H1 F1 θ1 R1 l1 p1 r1 => ?_⟩
  obtain ⟨a, oh, ea, _⟩ := R1.slot i _ en1
  refine ⟨_, ea, F1, G, θ1, s1, y, s2, R1, e2, fun v2 H2 F2 θ2 R2 l2 p2 r2 => ?_⟩
  split at ev
  · rename_i l z en2
    split at ev
    · rename_i j ej
      split at ev
      · rename_i h3
        cases ev
        obtain ⟨o, hx, f, g, tt, xs, rfl, q⟩ := R2.ownAt en2 ea
        cases (show Rp _ _ _ _ _ from r2)
        exact ⟨a, xs, z, j, rfl, rfl, hx, by rw [q.length]; exact ej, k _ _ F2 θ2 (R2.ownUpd (l' := .lst _) en2 ea ⟨_, rfl, q.set ((r1.rp h3).mono l2 p2) j⟩) (l1.trans l2) (p1.trans p2)⟩
      · cases ev
    · cases ev
  · cases ev
theorem sFset (C : Cxt D gc cf X sc) {o e : Ex} {f : Str} {a v : Expr} {p pos : Pos} (hf : f ∈ D.fl) (ho : PE X a (RE gc cf (MX D.cl X) o)) (he : PE X v (RE gc cf (MX D.cl X) e)) : PS X (.Assign [.Attribute a f p] v pos) (RS gc cf wf (MX D.cl X) (.fset o f e)) := by
  refine ⟨fun pins s0 σ H D' I hh => ?_⟩
  obtain ⟨F, G, θ, s, fl, s', R, ev, k⟩ := hh
  simp only [exS] at ev
  obtain ⟨t, s1, e1, ev⟩ := Rs.bind_eq ev
  obtain ⟨x, s2, e2, ev⟩ := Rs.bind_eq ev
  refine (ps_fld ho he (by cases v <;> rfl)).run pins s0 σ H D' I ⟨F, G, θ, s, t, s1, R, e1, fun v1 H1 F1 θ1 R1 l1 p1 r1 => ⟨F1, G, θ1, s1, x, s2, R1, e2, fun v2 H2 F2 θ2 R2 l2 p2 r2 => ?_⟩⟩
  split at ev
  · rename_i n
    split at ev
    · rename_i c ns l em
      split at ev
      · rename_i hcc
        obtain ⟨h3, h4⟩ := and2 hcc
        have h4 := of_decide_eq_true h4
        cases ev
        cases (show Rp _ _ _ _ _ from r2) with
        | ob hn =>
          obtain ⟨a', q1, q2, q3, zs, q4, q5⟩ := R2.m.ob n _ em (fun z => nomatch z)
          rw [hn] at q1
          cases q1
          obtain ⟨C0, dx, fs, rfl, g2, g3, g4, g5⟩ := q5
          subst g4
          obtain ⟨C1, c1, c2⟩ := C.cls c g2
          have e9 : C1 = C0 := by
            have := c1.symm.trans g3
            injection this with this
            injection this
          subst e9
          obtain ⟨z1, z2⟩ := setF_ok (f := f) ((r1.rp h3).mono l2 p2) g5
          refine ⟨_, C1, dx, fs, rfl, q4, c2.cl, c2.na f hf, by rw [List.length_map] at h4; exact h4, ?_⟩
          exact k _ _ F2 θ2 (R2.memUpd (l' := .ins c _ _) em (fun z => nomatch z) hn ⟨C1, dx, _, rfl, g2, g3, z1, z2⟩) (l1.trans l2) (p1.trans p2)
      · cases ev
    · cases ev
  · cases ev
/-- own lists made by a slice -/
theorem sOwnSl (C : Cxt D gc cf X sc) {i : Nat} {a lo hi : Ex} {x : Str} {y : Expr} {l h : Option Expr} {px p2 p3 pos : Pos} (hN : X.N[i]? = some x) (hl : locB sc x = true) (ha : PE X y (RE gc cf (MX D.cl X) a)) (hlo : PO X l (RO gc cf (MX D.cl X) lo)) (hhi : PO X h (RO gc cf (MX D.cl X) hi)) :
    PS X (.Assign [.Name x px] (.Subscript y (.Slice l h none p2) p3) pos) (RS gc cf wf (MX D.cl X) (.ownE i (.sl a lo hi))) := by
  obtain ⟨h1, h2⟩ := C.loc x hl
  refine ⟨fun pins s0 σ H D' I hh => ?_⟩
  obtain ⟨F, G, θ, s, fl, s', R, ev, k⟩ := hh
  simp only [exS, evX, fin] at ev
  obtain ⟨t, s9, e0, ev⟩ := Rs.bind_eq ev
  obtain ⟨x1, s1, e1, e2⟩ := Rs.bind_eq e0
  obtain ⟨lo', s2, e3, e2⟩ := Rs.bind_eq e2
  obtain ⟨hi', s3, e4, e2⟩ := Rs.bind_eq e2
  obtain ⟨e5, rfl⟩ := Rs.of_eq e2
  clear e0 e2
  have ht : ∃ ll, t = .lst ll := by
    cases t with
    | lst ll => exact ⟨ll, rfl⟩
    | _ => exact nomatch ev
  obtain ⟨ll, rfl⟩ := ht
  · replace ev : (if i < s3.env.length then Rs.ok Fl.next (⟨s3.env.set i (.own (.lst ll)), s3.mem⟩ : Sta) else .no) = .ok fl s' := ev
    split at ev
    · rename_i hi9
      cases ev
      refine (ps_set C.nd hN h1 (pe_slice (sl_tupA.or (sl_list.or sl_str)) ha hlo hhi) rfl h2).run pins s0 σ H D' I ⟨F, G, θ, s, x1, s1, R, e1, fun v H1 F1 θ1 R1 l1 p1 r1 => ⟨F1, G, θ1, s1, lo', s2, R1, e3, fun H2 F2 θ2 R2 l2 p2 => ⟨F2, G, θ2, s2, hi', _, R2, e4, fun H3 F3 θ3 R3 l3 p3 => ?_⟩⟩⟩
      have rd := R3.read (r1.mono (l2.trans l3) (p2.trans p3)) (slT_nb e5)
      have lst : ∃ m, seqT (s3.deref x1) = some m ∧ ll = cutT m lo' hi' ∧ isTupT (s3.deref x1) = false := by
        cases e9 : s3.deref x1 with
        | lst m => rw [e9] at e5; simp only [slT] at e5; cases e5; exact ⟨m, rfl, rfl, rfl⟩
        | flst m => rw [e9] at e5; simp only [slT] at e5; cases e5; exact ⟨m, rfl, rfl, rfl⟩
        | str z => rw [e9] at e5; simp only [slT] at e5; split at e5 <;> cases e5
        | tup m => rw [e9] at e5; simp only [slT] at e5; cases e5
        | _ => rw [e9] at e5; simp only [slT] at e5; cases e5
      obtain ⟨m, m1, m2, m3⟩ := lst
      have sq : ∃ a xs, v = .ref a ∧ SqL X.K H3 a xs ∧ Rps (MX D.cl X) F3 θ3 m xs := by
        cases e9 : s3.deref x1 with
        | lst m' => rw [e9] at m1 rd; cases m1; obtain ⟨a, xs, rfl, q, r⟩ := rd; exact ⟨a, xs, rfl, SqL.of q, r⟩
        | flst m' => rw [e9] at m1 rd; cases m1; obtain ⟨a, xs, rfl, q, r⟩ := flstH rd R3.m.fle; exact ⟨a, xs, rfl, q, r⟩
        | tup m' => rw [e9] at m3; cases m3
        | _ => rw [e9] at m1; cases m1
      obtain ⟨aa, xs, rfl, q, r⟩ := sq
      exact .inr (.inl ⟨aa, xs, rfl, q, fun p np => k _ _ F3 θ3 (R3.ownNew (l := .lst ll) np ⟨_, rfl, by rw [m2]; exact cut_rps r⟩ hi9) (l1.trans (l2.trans l3)) (p1.trans (p2.trans p3))⟩)
    · cases ev
/-- own lists made by a sum -/
theorem sOwnAdd (C : Cxt D gc cf X sc) {i : Nat} {a b : Ex} {x : Str} {y z : Expr} {px p2 pos : Pos} (hN : X.N[i]? = some x) (hl : locB sc x = true) (ha : PE X y (RE gc cf (MX D.cl X) a)) (hb : PE X z (RE gc cf (MX D.cl X) b)) :
    PS X (.Assign [.Name x px] (.BinOp y .Add z p2) pos) (RS gc cf wf (MX D.cl X) (.ownE i (.bin .add a b))) := by
  obtain ⟨h1, h2⟩ := C.loc x hl
  refine ⟨fun pins s0 σ H D' I hh => ?_⟩
  obtain ⟨F, G, θ, s, fl, s', R, ev, k⟩ := hh
  simp only [exS, evX, fin] at ev
  obtain ⟨t, s9, e0, ev⟩ := Rs.bind_eq ev
  obtain ⟨x1, s1, e1, e2⟩ := Rs.bind_eq e0
  obtain ⟨y1, s2, e3, e4⟩ := Rs.bind_eq e2
  obtain ⟨e5, rfl⟩ := Rs.of_eq e4
  clear e0 e2 e4
  have ht : ∃ ll, t = .lst ll := by
    cases t with
    | lst ll => exact ⟨ll, rfl⟩
    | _ => exact nomatch ev
  obtain ⟨ll, rfl⟩ := ht
  replace ev : (if i < s2.env.length then Rs.ok Fl.next (⟨s2.env.set i (.own (.lst ll)), s2.mem⟩ : Sta) else .no) = .ok fl s' := ev
  split at ev
  · rename_i hi9
    cases ev
    obtain ⟨n1, n2⟩ := opB_nb e5
    have both : ∃ la lb, s2.deref x1 = .lst la ∧ s2.deref y1 = .lst lb ∧ la.length + lb.length ≤ sizeLine ∧ ll = la ++ lb := by
      generalize s2.deref x1 = u1 at e5
      generalize s2.deref y1 = u2 at e5
      cases u1 <;> cases u2 <;> simp only [opB] at e5 <;> first
        | (cases e5; done)
        | (injection e5 with e5; cases e5; done)
        | (split at e5 <;> first | (cases e5; done) | (injection e5 with e5; cases e5; done) | (rename_i hz; injection e5 with e5; injection e5 with e5; exact ⟨_, _, rfl, rfl, hz, e5.symm⟩))
    obtain ⟨la, lb, d1, d2, hz, rfl⟩ := both
    refine (ps_set C.nd hN h1 (pe_op op_cat ha hb) rfl h2).run pins s0 σ H D' I ⟨F, G, θ, s, x1, s1, R, e1, fun v H1 F1 θ1 R1 l1 p1 r1 => ⟨F1, G, θ1, s1, y1, s2, R1, e3, fun w H2 F2 θ2 R2 l2 p2 r2 => ?_⟩⟩
    have q1 := R2.read (r1.mono l2 p2) n1
    have q2 := R2.read r2 n2
    rw [d1] at q1
    rw [d2] at q2
    obtain ⟨aa, xs, rfl, ha', qa⟩ := q1
    obtain ⟨bb, ys, rfl, hb', qb⟩ := q2
    exact ⟨aa, bb, xs, ys, rfl, rfl, ha', hb', by rw [qa.length, qb.length]; exact hz, fun p np => k _ _ F2 θ2 (R2.ownNew (l := .lst (la ++ lb)) np ⟨_, rfl, qa.append qb⟩ hi9) (l1.trans l2) (p1.trans p2)⟩
  · cases ev
end
end Ev
/-! Soundness of statements: append, several names at once, small ones, loops. -/
namespace Ev
open PySem PySem.Spec L2
open PyProof.Rows hiding St
section
variable {D : Ds} {gc : Nat → Option Tr} {cf : CF} {wf : Nat} {X : Cx} {sc : Scope} {K : Mx} {F F' G H : Hp} {θ θ' : List Addr} {s : Sta} {σ : St}
theorem sApp {i : Nat} {e : Ex} {x : Str} {p2 ap cp pos : Pos} {z : Expr} (hN : X.N[i]? = some x) (hv : Vis X.env.scope x) (hk : okN x = true) (hl : (ap.endLine == cp.line) = true) (hst : isStar z = false) (he : PE X z (RE gc cf (MX D.cl X) e)) :
    PS X (.Expr (.Call (.Attribute (.Name x p2) "append" ap) [z] [] cp) pos) (RS gc cf wf (MX D.cl X) (.app i e)) := by
  obtain ⟨k1, k2⟩ := okN_ok hk
  refine ⟨fun pins s0 σ H D' I hh => ?_⟩
  obtain ⟨F, G, θ, s, fl, s', R, ev, k⟩ := hh
  simp only [exS] at ev
  split at ev
  · rename_i l0 en
    obtain ⟨t, s1, e1, ev⟩ := Rs.bind_eq ev
    split at ev
    · rename_i l en1
      split at ev
      · rename_i hc
        obtain ⟨h1, h2⟩ := and2 hc
        cases ev
        obtain ⟨a, o0, ea, ha, _, _, _, xs0, rfl, q0⟩ := R.slot i _ en
        refine (ps_expr (pe_bm PySem.F.plainAttrs_list PySem.F.slot_list_append PySem.F.type_list_append mt_append (pe_var (i := i) hN hv k1 k2) (pa_cons he pa_nil (star_cons hst)) (by rfl) (few1 hst) hl (star_cons hst) (by rfl)) rfl).run pins s0 σ H D' I ⟨_, ea, .inl ⟨rfl, _, SqL.of ha⟩, F, G, θ, s, t, s1, R, e1, fun v H1 F1 θ1 R1 l1 p1 r1 => ?_⟩
        obtain ⟨o1, hx, f, g, tt, xs, rfl, q⟩ := R1.ownAt en1 ea
        refine ⟨a, xs, v, rfl, rfl, hx, by rw [q.length]; exact of_decide_eq_true h2, k _ _ F1 θ1 (R1.ownUpd (l' := .lst (l ++ [t])) en1 ea ⟨_, rfl, q.append (.cons (r1.rp h1) .nil)⟩) l1 p1⟩
      · cases ev
    · cases ev
  · cases ev
/-- a list that an object holds grows -/
theorem sAppO {a e : Ex} {x z : Expr} {ap cp pos : Pos} (hx : isCall x = false) (hl : (ap.endLine == cp.line) = true) (hst : isStar z = false) (ha : PE X x (RE gc cf (MX D.cl X) a)) (he : PE X z (RE gc cf (MX D.cl X) e)) :
    PS X (.Expr (.Call (.Attribute x "append" ap) [z] [] cp) pos) (RS gc cf wf (MX D.cl X) (.appO a e)) := by
  refine ⟨fun pins s0 σ H D' I hh => ?_⟩
  obtain ⟨F, G, θ, s, fl, s', R, ev, k⟩ := hh
  simp only [exS] at ev
  have ev0 := Rs.bind_eq ev
  clear ev
  obtain ⟨x1, s1, e1, ev⟩ := ev0
  obtain ⟨n, rfl⟩ : ∃ n, x1 = .ob n := by
    cases x1 with
    | ob n => exact ⟨n, rfl⟩
    | _ => cases ev
  dsimp only at ev
  obtain ⟨l0, hm0⟩ : ∃ l, s1.mem[n]? = some (.lst l) := by
    cases hm : s1.mem[n]? with
    | none => rw [hm] at ev; cases ev
    | some ob =>
      rw [hm] at ev
      cases ob with
      | lst l => exact ⟨l, rfl⟩
      | _ => cases ev
  rw [hm0] at ev
  dsimp only at ev
  have ev0 := Rs.bind_eq ev
  clear ev
  obtain ⟨t, s2, e2, ev⟩ := ev0
  obtain ⟨l, hm⟩ : ∃ l, s2.mem[n]? = some (.lst l) := by
    cases hm : s2.mem[n]? with
    | none => rw [hm] at ev; cases ev
    | some ob =>
      rw [hm] at ev
      cases ob with
      | lst l => exact ⟨l, rfl⟩
      | _ => cases ev
  rw [hm] at ev
  dsimp only at ev
  by_cases hc : (t.pure && decide (l.length < sizeLine)) = true
  rotate_left
  · rw [if_neg hc] at ev
    cases ev
  rw [if_pos hc] at ev
  obtain ⟨h1, h2⟩ := and2 hc
  cases ev
  refine (ps_expr (pe_bm PySem.F.plainAttrs_list PySem.F.slot_list_append PySem.F.type_list_append mt_append ha (pa_cons he pa_nil (star_cons hst)) (attrBase hx) (few1 hst) hl (star_cons hst) (by rfl)) rfl).run pins s0 σ H D' I ⟨F, G, θ, s, _, s1, R, e1, fun v H1 F1 θ1 R1 l1 p1 r1 => ?_⟩
  have r' : Rp (MX D.cl X) F1 θ1 (.ob n) v := r1
  cases r' with
  | ob hn =>
    rename_i a'
    obtain ⟨b, g1, _, _, o, ho, rb⟩ := R1.m.ob n _ hm0 (fun z => nomatch z)
    rw [hn] at g1
    cases g1
    obtain ⟨xs0, rfl, _⟩ := rb
    refine ⟨.inl ⟨rfl, _, SqL.of ho⟩, F1, G, θ1, s1, t, s2, R1, e2, fun w H2 F2 θ2 R2 l2 p2 r2 => ?_⟩
    obtain ⟨b2, g2, _, _, o2, ho2, rb2⟩ := R2.m.ob n _ hm (fun z => nomatch z)
    have hn2 := pre_get p2 hn
    rw [hn2] at g2
    cases g2
    obtain ⟨xs, rfl, q⟩ := rb2
    exact ⟨a', xs, w, rfl, rfl, ho2, by rw [q.length]; exact of_decide_eq_true h2, k _ _ F2 θ2 (R2.memUpd (l' := .lst (l ++ [t])) hm (fun z => nomatch z) hn2 ⟨_, rfl, q.append (.cons (r2.rp h1) .nil)⟩) (l1.trans l2) (p1.trans p2)⟩
theorem sExt {i : Nat} {e : Ex} {x : Str} {p2 ap cp pos : Pos} {z : Expr} (hN : X.N[i]? = some x) (hv : Vis X.env.scope x) (hk : okN x = true) (hl : (ap.endLine == cp.line) = true) (hst : isStar z = false) (he : PE X z (RE gc cf (MX D.cl X) e)) :
    PS X (.Expr (.Call (.Attribute (.Name x p2) "extend" ap) [z] [] cp) pos) (RS gc cf wf (MX D.cl X) (.ext i e)) := by
  obtain ⟨k1, k2⟩ := okN_ok hk
  refine ⟨fun pins s0 σ H D' I hh => ?_⟩
  obtain ⟨F, G, θ, s, fl, s', R, ev, k⟩ := hh
  simp only [exS] at ev
  split at ev
  · rename_i l0 en
    obtain ⟨t, s1, e1, ev⟩ := Rs.bind_eq ev
    obtain ⟨a, o0, ea, ha, _, _, _, xs0, rfl, q0⟩ := R.slot i _ en
    split at ev
    · rename_i l m en1
      split at ev
      · rename_i hc
        cases ev
        refine (ps_expr (pe_bm PySem.F.plainAttrs_list PySem.F.slot_list_extend PySem.F.type_list_extend mt_extend (pe_var (i := i) hN hv k1 k2) (pa_cons he pa_nil (star_cons hst)) (by rfl) (few1 hst) hl (star_cons hst) (by rfl)) rfl).run pins s0 σ H D' I ⟨_, ea, .inl ⟨rfl, _, SqL.of ha⟩, F, G, θ, s, _, s1, R, e1, fun v H1 F1 θ1 R1 l1 p1 r1 => ?_⟩
        obtain ⟨o1, hx, f, g, tt, xs, rfl, q⟩ := R1.ownAt en1 ea
        obtain ⟨b, ys, rfl, hb, qb⟩ := RpH.of R1.m.fle (r1.rp rfl)
        exact ⟨a, b, xs, ys, rfl, rfl, hx, hb, by rw [q.length, qb.length]; exact hc, k _ _ F1 θ1 (R1.ownUpd (l' := .lst (l ++ m)) en1 ea ⟨_, rfl, q.append qb⟩) l1 p1⟩
      · cases ev
    · rename_i l m en1
      split at ev
      · rename_i hc
        cases ev
        refine (ps_expr (pe_bm PySem.F.plainAttrs_list PySem.F.slot_list_extend PySem.F.type_list_extend mt_extendT (pe_var (i := i) hN hv k1 k2) (pa_cons he pa_nil (star_cons hst)) (by rfl) (few1 hst) hl (star_cons hst) (by rfl)) rfl).run pins s0 σ H D' I ⟨_, ea, .inl ⟨rfl, _, SqL.of ha⟩, F, G, θ, s, _, s1, R, e1, fun v H1 F1 θ1 R1 l1 p1 r1 => ?_⟩
        obtain ⟨o1, hx, f, g, tt, xs, rfl, q⟩ := R1.ownAt en1 ea
        obtain ⟨b, ys, rfl, hb, qb, _⟩ := tupH (RpH.of R1.m.fle (r1.rp rfl)) R1.m.fle
        exact ⟨a, b, xs, ys, rfl, rfl, hx, hb, by rw [q.length, qb.length]; exact hc, k _ _ F1 θ1 (R1.ownUpd (l' := .lst (l ++ m)) en1 ea ⟨_, rfl, q.append qb⟩) l1 p1⟩
      · cases ev
    · cases ev
  · cases ev
theorem sExp {e : Ex} {v : Expr} {pos : Pos} (hv : isCompE v = false) (he : PE X v (RE gc cf (MX D.cl X) e)) : PS X (.Expr v pos) (RS gc cf wf (MX D.cl X) (.ex e)) := by
  refine ⟨fun pins s0 σ H D' I hh => ?_⟩
  obtain ⟨F, G, θ, s, fl, s', R, ev, k⟩ := hh
  simp only [exS] at ev
  obtain ⟨t, s1, e1, ev⟩ := Rs.bind_eq ev
  cases ev
  exact (ps_expr he (swaps_no hv)).run pins s0 σ H D' I ⟨F, G, θ, s, t, _, R, e1, fun v H1 F1 θ1 R1 l1 p1 r1 => k σ H1 F1 θ1 R1 l1 p1⟩
theorem sRet {e : Ex} {v : Expr} {pos : Pos} (he : PE X v (RE gc cf (MX D.cl X) e)) : PS X (.Return (some v) pos) (RS gc cf wf (MX D.cl X) (.ret e)) := by
  refine ⟨fun pins s0 σ H D' I hh => ?_⟩
  obtain ⟨F, G, θ, s, fl, s', R, ev, k⟩ := hh
  simp only [exS] at ev
  obtain ⟨t, s1, e1, ev⟩ := Rs.bind_eq ev
  split at ev
  · rename_i hp
    cases ev
    exact (ps_ret he).run pins s0 σ H D' I ⟨F, G, θ, s, t, _, R, e1, fun v H1 F1 θ1 R1 l1 p1 r1 => k v σ H1 F1 θ1 R1 l1 p1 (r1.rp hp)⟩
  · cases ev
theorem sRetN {pos : Pos} : PS X (.Return none pos) (RS gc cf wf (MX D.cl X) .retN) := by
  refine ⟨fun pins s0 σ H D' I hh => ?_⟩
  obtain ⟨F, G, θ, s, fl, s', R, ev, k⟩ := hh
  simp only [exS] at ev
  cases ev
  exact ps_retN.run pins s0 σ H D' I (k .non σ H F θ R (FLe.refl F) (List.prefix_refl _) .non)
theorem sBrk {pos : Pos} : PS X (.Break pos) (RS gc cf wf (MX D.cl X) .brk) := by
  refine ⟨fun pins s0 σ H D' I hh => ?_⟩
  obtain ⟨F, G, θ, s, fl, s', R, ev, k⟩ := hh
  simp only [exS] at ev
  cases ev
  exact ps_break.run pins s0 σ H D' I (k σ H F θ R (FLe.refl F) (List.prefix_refl _))
theorem sCont {pos : Pos} : PS X (.Continue pos) (RS gc cf wf (MX D.cl X) .cont) := by
  refine ⟨fun pins s0 σ H D' I hh => ?_⟩
  obtain ⟨F, G, θ, s, fl, s', R, ev, k⟩ := hh
  simp only [exS] at ev
  cases ev
  exact ps_continue.run pins s0 σ H D' I (k σ H F θ R (FLe.refl F) (List.prefix_refl _))
theorem sPass {pos : Pos} : PS X (.Pass pos) (RS gc cf wf (MX D.cl X) .pass) := by
  refine ⟨fun pins s0 σ H D' I hh => ?_⟩
  obtain ⟨F, G, θ, s, fl, s', R, ev, k⟩ := hh
  simp only [exS] at ev
  cases ev
  exact ps_pass.run pins s0 σ H D' I (k σ H F θ R (FLe.refl F) (List.prefix_refl _))
theorem bl_onlyF {r : Rs Tr} {f : Sta → Rs Fl} {g : Sta → Rs Fl} {t : Fl} {s' : Sta} (h : (r.bind fun x s1 => match x with
    | .bl true => f s1
    | .bl false => g s1
    | _ => .no) = .ok t s') : ∃ b s1, r = .ok (.bl b) s1 ∧ (if b = true then f s1 else g s1) = .ok t s' := by
  obtain ⟨x, s1, e1, e2⟩ := Rs.bind_eq h
  cases x with
  | bl b => cases b <;> exact ⟨_, s1, e1, e2⟩
  | _ => cases e2
theorem sIf {c : Ex} {a b : List Sm} {t : Expr} {x y : List Stmt} {pos : Pos} (hc : PT X t (RT gc cf (MX D.cl X) c)) (ha : PSs X x (RSs gc cf wf (MX D.cl X) a)) (hb : PSs X y (RSs gc cf wf (MX D.cl X) b)) : PS X (.If t x y pos) (RS gc cf wf (MX D.cl X) (.ite c a b)) := by
  refine ⟨fun pins s0 σ H D' I hh => ?_⟩
  obtain ⟨F, G, θ, s, fl, s', R, ev, k⟩ := hh
  simp only [exS] at ev
  obtain ⟨d, s1, e1, e2⟩ := bl_onlyF ev
  refine (ps_if hc ha hb).run pins s0 σ H D' I ⟨F, G, θ, s, d, s1, R, e1, fun H1 F1 θ1 R1 l1 p1 => ?_⟩
  cases d with
  | true => exact ⟨F1, G, θ1, s1, fl, s', R1, e2, k.mono l1 p1⟩
  | false => exact ⟨F1, G, θ1, s1, fl, s', R1, e2, k.mono l1 p1⟩
theorem sNil : PSs X [] (RSs gc cf wf (MX D.cl X) []) := by
  refine ⟨fun pins s0 σ H D' I hh => ?_⟩
  obtain ⟨F, G, θ, s, fl, s', R, ev, k⟩ := hh
  simp only [exSs] at ev
  cases ev
  exact pss_nil.run pins s0 σ H D' I (k σ H F θ R (FLe.refl F) (List.prefix_refl _))
theorem sCons {a : Sm} {b : List Sm} {x : Stmt} {y : List Stmt} (ha : PS X x (RS gc cf wf (MX D.cl X) a)) (hb : PSs X y (RSs gc cf wf (MX D.cl X) b)) : PSs X (x :: y) (RSs gc cf wf (MX D.cl X) (a :: b)) := by
  refine ⟨fun pins s0 σ H D' I hh => ?_⟩
  obtain ⟨F, G, θ, s, fl, s', R, ev, k⟩ := hh
  simp only [exSs] at ev
  obtain ⟨f, s1, e1, e2⟩ := Rs.bind_eq ev
  refine (pss_cons ha hb).run pins s0 σ H D' I ⟨F, G, θ, s, f, s1, R, e1, ?_⟩
  cases f with
  | next => exact fun σ1 H1 F1 θ1 R1 l1 p1 => ⟨F1, G, θ1, s1, fl, s', R1, e2, k.mono l1 p1⟩
  | brk => cases e2; exact k
  | cont => cases e2; exact k
  | ret t => cases e2; exact k
theorem Cxt.passes (C : Cxt D gc cf X sc) : PassesOwn (model X.prog X.w) X.A X.env X.xe := by rw [C.xe]; exact PassesOwn.never
theorem sWhile (C : Cxt D gc cf X sc) {c : Ex} {b : List Sm} {t : Expr} {y : List Stmt} {pos : Pos} (hc : PT X t (RT gc cf (MX D.cl X) c)) (hb : PSs X y (RSs gc cf wf (MX D.cl X) b)) : PS X (.While t y [] pos) (RS gc cf wf (MX D.cl X) (.whl c b)) := by
  refine ⟨fun pins s0 σ H D' I hh => ?_⟩
  obtain ⟨F, G, θ, s, fl, s', R, ev, k⟩ := hh
  simp only [exS] at ev
  refine (ps_while C.passes hc hb).run pins s0 σ H D' I ⟨fun m σ H => ∃ F1 θ1 s1, Rel (MX D.cl X) F1 G θ1 s1 σ H ∧ FLe F F1 ∧ θ <+: θ1 ∧ whGo (evX gc cf c true) (exSs gc cf wf b) m s1 = .ok fl s', ⟨wf, F, θ, s, R, FLe.refl F, List.prefix_refl _, ev⟩, ?_⟩
  rintro m σ1 H1 ⟨F1, θ1, s1, R1, l1, p1, ev⟩
  cases m with
  | zero => simp only [whGo] at ev; cases ev
  | succ m =>
    simp only [whGo] at ev
    cases ec : evX gc cf c true s1 with
    | no => rw [ec] at ev; cases ev
    | ok tv s2 =>
      rw [ec] at ev
      cases tv with
      | bl d =>
        refine ⟨F1, G, θ1, s1, d, s2, R1, ec, fun H2 F2 θ2 R2 l2 p2 => ?_⟩
        cases d with
        | false =>
          cases ev
          rw [if_neg Bool.false_ne_true]
          exact k σ1 H2 F2 θ2 R2 (l1.trans l2) (p1.trans p2)
        | true =>
          rw [if_pos rfl]
          dsimp only at ev
          cases eb : exSs gc cf wf b s2 with
          | no => rw [eb] at ev; cases ev
          | ok f s3 =>
            rw [eb] at ev
            refine ⟨fun σ' H' => ∃ F3 θ3, Rel (MX D.cl X) F3 G θ3 s3 σ' H' ∧ FLe F F3 ∧ θ <+: θ3 ∧ whGo (evX gc cf c true) (exSs gc cf wf b) m s3 = .ok fl s', fun σ' H' ⟨F3, θ3, R3, l3, p3, e3⟩ => ⟨m, Nat.lt_succ_self m, F3, θ3, s3, R3, l3, p3, e3⟩, F2, G, θ2, s2, f, s3, R2, eb, ?_⟩
            have l12 := l1.trans l2
            have p12 := p1.trans p2
            cases f with
            | next => exact fun σ3 H3 F3 θ3 R3 l3 p3 => ⟨F3, θ3, R3, l12.trans l3, p12.trans p3, ev⟩
            | cont => exact fun σ3 H3 F3 θ3 R3 l3 p3 => ⟨F3, θ3, R3, l12.trans l3, p12.trans p3, ev⟩
            | brk => cases ev; exact fun σ3 H3 F3 θ3 R3 l3 p3 => k σ3 H3 F3 θ3 R3 (l12.trans l3) (p12.trans p3)
            | ret t => cases ev; exact fun v σ3 H3 F3 θ3 R3 l3 p3 r => k v σ3 H3 F3 θ3 R3 (l12.trans l3) (p12.trans p3) r
      | _ => cases ev
theorem sFor (C : Cxt D gc cf X sc) {k : Nat} {tg : Tg} {its : List Ex} {b : List Sm} {tge iter : Expr} {y : List Stmt} {pos : Pos} (hS : isSetE iter = false) (hT : chkT X.N sc tg tge = true) (hI : PI X tge iter (RI gc cf (MX D.cl X) k its)) (hb : PSs X y (RSs gc cf wf (MX D.cl X) b)) :
    PS X (.For tge iter y [] pos) (RS gc cf wf (MX D.cl X) (.forr k tg its b)) := by
  have hs : ∀ x, foldedSetIterable iter X.env x = pure x := fun x => by cases iter <;> first | rfl | (exact nomatch hS)
  refine ⟨fun pins s0 σ H D' I hh => ?_⟩
  obtain ⟨F, G, θ, s, fl, s', R, ev, kk⟩ := hh
  simp only [exS] at ev
  obtain ⟨vs, s1, e1, ev⟩ := Rs.bind_eq ev
  split at ev
  · rename_i hp
    split at ev
    · rename_i xs hi
      have hd : vs.map s1.deref = vs := by
        have : ∀ l : List Tr, l.all Tr.pure = true → l.map s1.deref = l := by
          intro l
          induction l with
          | nil => intro _; rfl
          | cons t l ih =>
            intro h
            rw [List.all_cons, Bool.and_eq_true] at h
            rw [List.map_cons, ih h.2]
            cases t <;> first | rfl | (exact nomatch h.1)
        exact this vs hp
      refine (ps_for C.passes C.calm hI (sT (cl := D.cl) C.nd C.calm C.loc tg tge hT) hb hs).run pins s0 σ H D' I ⟨F, G, θ, s, vs, s1, xs, R, e1, by rw [hd]; exact hp, by rw [hd]; exact hi, fun J H1 F1 θ1 R1 l1 p1 wk => ?_⟩
      refine for_it wk (fun i σ' H' => ∃ F' θ' s2, Rel (MX D.cl X) F' G θ' s2 σ' H' ∧ FLe F1 F' ∧ θ1 <+: θ' ∧ forGo tg (exSs gc cf wf b) (xs.drop i) s2 = .ok fl s') ?_ ?_ ?_ ?_
      · exact ⟨F1, θ1, s1, R1, FLe.refl _, List.prefix_refl _, ev⟩
      · rintro i σ' H' _ ⟨F', θ', s2, R2, l', p', _⟩
        exact ⟨l'.trans R2.m.fle, .inl hp⟩
      · rintro i x σ' H' H'' hlt ⟨F', θ', s2, R2, l', p', eg⟩ ⟨t, ht, hy⟩
        have ed : xs.drop i = t :: xs.drop (i + 1) := by
          obtain ⟨h1, h2⟩ := List.getElem?_eq_some_iff.mp ht
          rw [List.drop_eq_getElem_cons h1, h2]
        rw [ed] at eg
        simp only [forGo] at eg
        obtain ⟨F2, lF2, R3, rt⟩ : ∃ F2, FLe F' F2 ∧ Rel (MX D.cl X) F2 G θ' s2 σ' H'' ∧ Rp (MX D.cl X) F2 θ' t x := by
          rcases hy with ⟨rfl, rr⟩ | ⟨p, l, ws, np, rfl, rfl, rfl, rr, _⟩
          · exact ⟨F', FLe.refl _, R2, rr.mono l' p'⟩
          · have fp := R2.m.fle.none np
            exact ⟨_, FLe.upd1 fp, R2.newF np, .tup (SqT.of upd_same) (rr.mono (l'.trans (FLe.upd1 fp)) p')⟩
        cases ea : asg tg t s2.env with
        | none => rw [ea] at eg; cases eg
        | some env1 =>
          rw [ea] at eg
          dsimp only at eg
          refine ⟨F2, G, θ', s2.env, s2.mem, t, env1, R3, rt, ea, fun σ3 R4 _ => ?_⟩
          cases eb : exSs gc cf wf b ⟨env1, s2.mem⟩ with
          | no => rw [eb] at eg; cases eg
          | ok f s3 =>
            rw [eb] at eg
            refine ⟨F2, G, θ', ⟨env1, s2.mem⟩, f, s3, R4, eb, ?_⟩
            have lA := l'.trans lF2
            cases f with
            | next => exact fun σ5 H5 F5 θ5 R5 l5 p5 => ⟨F5, θ5, s3, R5, lA.trans l5, p'.trans p5, eg⟩
            | cont => exact fun σ5 H5 F5 θ5 R5 l5 p5 => ⟨F5, θ5, s3, R5, lA.trans l5, p'.trans p5, eg⟩
            | brk => cases eg; exact fun σ5 H5 F5 θ5 R5 l5 p5 => kk σ5 H5 F5 θ5 R5 (l1.trans (lA.trans l5)) (p1.trans (p'.trans p5))
            | ret t => cases eg; exact fun v σ5 H5 F5 θ5 R5 l5 p5 r => kk v σ5 H5 F5 θ5 R5 (l1.trans (lA.trans l5)) (p1.trans (p'.trans p5)) r
      · rintro σ' H' ⟨F', θ', s2, R2, l', p', eg⟩
        rw [List.drop_length] at eg
        simp only [forGo] at eg
        cases eg
        exact kk σ' H' F' θ' R2 (l1.trans l') (p1.trans p')
    · cases ev
  · cases ev
end
end Ev
/-! Soundness of statements: several names at once; the theorem. -/
namespace Ev
open PySem PySem.Spec L2
open PyProof.Rows hiding St
section
variable {D : Ds} {gc : Nat → Option Tr} {cf : CF} {wf : Nat} {X : Cx} {sc : Scope} {K : Mx} {F F' G H : Hp} {θ θ' : List Addr} {s : Sta} {σ : St}
/-- values for names; the own ones stand at addresses ps, guarded -/
inductive MOk (K : Mx) (F G : Hp) (θ : List Addr) : List (Nat × Nat) → List Tr → List V → List Addr → Prop
  | nil : MOk K F G θ [] [] [] []
  | val {i : Nat} {is : List (Nat × Nat)} {t : Tr} {ts : List Tr} {v : V} {vs : List V} {ps : List Addr} : Rp K F θ t v → MOk K F G θ is ts vs ps → MOk K F G θ ((i, 0) :: is) (t :: ts) (v :: vs) ps
  | own {i o : Nat} {is : List (Nat × Nat)} {t : Tr} {b : Ob} {ts : List Tr} {a : Addr} {ho : HO} {vs : List V} {ps : List Addr} : o ≠ 0 → ownOb o t = some b → G a = some ho → RpB K F θ a b ho → a ∉ ps → MOk K F G θ is ts vs ps → MOk K F G θ ((i, o) :: is) (t :: ts) (.ref a :: vs) (a :: ps)
theorem MOk.mono {G G' : Hp} (hF : FLe F F') (hθ : θ <+: θ') : ∀ {is : List (Nat × Nat)} {ts : List Tr} {vs : List V} {ps : List Addr}, (∀ a ∈ ps, G' a = G a) → MOk K F G θ is ts vs ps → MOk K F' G' θ' is ts vs ps
  | _, _, _, _, _, .nil => .nil
  | _, _, _, _, h, .val r m => .val (r.mono hF hθ) (m.mono hF hθ h)
  | _, _, _, _, h, .own n0 ob g r n m => .own n0 ob (by rw [h _ List.mem_cons_self]; exact g) (r.mono hF hθ) n (m.mono hF hθ fun b hb => h b (List.mem_cons_of_mem _ hb))
theorem MOk.len : ∀ {is : List (Nat × Nat)} {ts : List Tr} {vs : List V} {ps : List Addr}, MOk K F G θ is ts vs ps → vs.length = is.length
  | _, _, _, _, .nil => rfl
  | _, _, _, _, .val _ m => by rw [List.length_cons, List.length_cons, m.len]
  | _, _, _, _, .own _ _ _ _ _ m => by rw [List.length_cons, List.length_cons, m.len]
noncomputable def remG (G : Hp) (a : Addr) : Hp := fun b => if b = a then none else G b
theorem remG_le {a : Addr} : FLe (remG G a) G := fun b o e => by
  unfold remG at e
  split at e
  · cases e
  · exact e
theorem remG_at {a : Addr} : remG G a a = none := by unfold remG; rw [if_pos rfl]
theorem remG_ne {a b : Addr} (h : b ≠ a) : remG G a b = G b := by unfold remG; rw [if_neg h]
noncomputable def setAll : St → List (Nat × Nat) → List V → St
  | σ, (i, _) :: is, v :: vs => setAll (σ.set i (some v)) is vs
  | σ, _, _ => σ
theorem manyRel {m : List Ob} : ∀ (is : List (Nat × Nat)) (ts : List Tr) (vs : List V) (ps : List Addr) (env env' : List Slot) (σ : St) (G' : Hp), MOk K F G' θ is ts vs ps → manyGo is ts env = some env' → Rel K F G' θ ⟨env, m⟩ σ H →
    FLe G G' → (∀ a ∈ ps, G a = none) → Rel K F G θ ⟨env', m⟩ (setAll σ is vs) H
  | _, _, _, _, env, env', σ, G', .nil, e, R, l, _ => by
    simp only [manyGo] at e
    cases e
    exact R.weakG l
  | (i, 0) :: is, t :: ts, v :: vs, ps, env, env', σ, G', .val r mo, e, R, l, h => by
    simp only [manyGo] at e
    split at e
    · rename_i hi
      rw [if_pos trivial] at e
      exact manyRel is ts vs ps _ env' _ G' mo e (R.store r hi) l h
    · cases e
  | (i, o) :: is, t :: ts, .ref a :: vs, _ :: ps, env, env', σ, G', .own n0 ob g r n mo, e, R, l, h => by
    simp only [manyGo, if_neg n0, ob] at e
    split at e
    · rename_i hi
      have R1 : Rel K F (remG G' a) θ ⟨env, m⟩ σ H := R.weakG remG_le
      have R2 := R1.storeOwn (i := i) r (R.m.gle a _ g) (R.m.fg a _ g) remG_at (R.m.gth g) (fun j l' _ ej z => by
        obtain ⟨zs, _, _, q, _⟩ := R.ownAt ej z
        rw [g] at q
        cases q) hi
      refine manyRel is ts vs ps _ env' _ (remG G' a) (mo.mono (FLe.refl F) (List.prefix_refl _) fun b hb => remG_ne fun z => ?_) e R2 (fun b o eb => ?_) fun b hb => h b (List.mem_cons_of_mem _ hb)
      · subst z; exact n hb
      · have ne : b ≠ a := fun z => by
          subst z
          rw [h b List.mem_cons_self] at eb
          cases eb
        rw [remG_ne ne]
        exact l b o eb
    · cases e
noncomputable def RM (gc : Nat → Option Tr) (cf : CF) (K : Mx) (is : List (Nat × Nat)) (es : List Ex) : TA := fun σ H Q => ∃ F G θ s ts s', Rel K F G θ s σ H ∧ evEs gc cf es s = .ok ts s' ∧ ts.all Tr.pure = true ∧
  ∀ vs H' F' G' θ' ps, Rel K F' G' θ' s' σ H' → FLe F F' → FLe G G' → θ <+: θ' → MOk K F' G' θ' is ts vs ps → (∀ a ∈ ps, G a = none) → Q vs H'
theorem sM (C : Cxt D gc cf X sc) : ∀ (is : List (Nat × Nat)) (es : List Ex) (xs : List Expr), dispOk is es = true → chks D X.N sc es xs = true → PA X xs (RM gc cf (MX D.cl X) is es)
  | [], [], xs, hd, h => by
    cases xs with
    | cons _ _ => exact nomatch h
    | nil =>
      refine ⟨fun p pins s0 σ H Q I hh => ?_⟩
      obtain ⟨F, G, θ, s, ts, s', R, ev, _, k⟩ := hh
      simp only [evEs] at ev
      cases ev
      exact pa_nil.run p pins s0 σ H Q I (k [] H F G θ [] R (FLe.refl F) (FLe.refl G) (List.prefix_refl _) .nil (fun _ z => nomatch z))
  | [], _ :: _, _, hd, _ => nomatch hd
  | _ :: _, [], _, hd, _ => by simp only [dispOk] at hd; cases hd
  | (i, o) :: is, e :: es, xs, hd, h => by
    cases xs with
    | nil => exact nomatch h
    | cons x xs =>
      simp only [chks] at h
      obtain ⟨h1, h2⟩ := and2 h
      obtain ⟨h1, h3⟩ := and2 h1
      simp only [dispOk] at hd
      obtain ⟨hd1, hd2⟩ := and2 hd
      have hst : isStar x = false := by simpa using h1
      have rest := sM C is es xs hd2 h2
      by_cases ho : o = 0
      · subst ho
        have p1 := (sX e X sc x C h3).pe
        refine ⟨fun p pins s0 σ H Q I hh => ?_⟩
        obtain ⟨F, G, θ, s, ts, s', R, ev, hp, k⟩ := hh
        simp only [evEs] at ev
        obtain ⟨t, s1, e1, ev⟩ := Rs.bind_eq ev
        obtain ⟨ts', s2, e2, ev⟩ := Rs.bind_eq ev
        cases ev
        rw [List.all_cons, Bool.and_eq_true] at hp
        exact (pa_cons p1 rest (star_cons hst)).run p pins s0 σ H Q I ⟨F, G, θ, s, t, s1, R, e1, fun v H1 F1 θ1 R1 l1 p1' r1 => ⟨F1, G, θ1, s1, ts', _, R1, e2, hp.2, fun vs H2 F2 G2 θ2 ps R2 l2 g2 p2' mo hps =>
          k (v :: vs) H2 F2 G2 θ2 ps R2 (l1.trans l2) g2 (p1'.trans p2') (.val ((r1.rp hp.1).mono l2 p2') mo) hps⟩⟩
      have finG : ∀ {tt : TE}, PE X x tt → (∀ {σ : St} {H : Hp} {Q : VK} {F G : Hp} {θ : List Addr} {s : Sta} {t : Tr} {s1 : Sta}, Rel (MX D.cl X) F G θ s σ H → evX gc cf e false s = .ok t s1 →
            (∀ p b hb H1 F1 θ1, ownOb o t = some b → H1 p = none → Rel (MX D.cl X) F1 G θ1 s1 σ H1 → FLe F F1 → θ <+: θ1 → RpB (MX D.cl X) F1 θ1 p b hb → Q (.ref p) (upd H1 p hb)) → tt σ H Q) → PA X (x :: xs) (RM gc cf (MX D.cl X) ((i, o) :: is) (e :: es)) := by
          intro tt pe hr
          refine ⟨fun p pins s0 σ H Q I hh => ?_⟩
          obtain ⟨F, G, θ, s, ts, s', R, ev, hp, k⟩ := hh
          simp only [evEs] at ev
          obtain ⟨t, s1, e1, ev⟩ := Rs.bind_eq ev
          obtain ⟨ts', s2, e2, ev⟩ := Rs.bind_eq ev
          cases ev
          rw [List.all_cons, Bool.and_eq_true] at hp
          refine (pa_cons pe rest (star_cons hst)).run p pins s0 σ H Q I (hr R e1 fun a b zs H1 F1 θ1 ob na R1 l1 p1' r => ?_)
          have ga : G a = none := R1.m.gle.none na
          refine ⟨F1, upd G a zs, θ1, s1, ts', _, R1.pend na, e2, hp.2, fun vs H2 F2 G2 θ2 ps R2 l2 g2 p2' mo hps => ?_⟩
          have nps : a ∉ ps := fun z => by have := hps a z; rw [upd_same] at this; cases this
          refine k (.ref a :: vs) H2 F2 G2 θ2 (a :: ps) R2 (l1.trans l2) (fun b o eb => g2 b o (by rw [upd_ne (ne_of_none eb ga)]; exact eb)) (p1'.trans p2') (.own ho ob (g2 a _ upd_same) (r.mono l2 p2') nps mo) fun b hb => ?_
          rcases List.mem_cons.mp hb with rfl | hb
          · exact ga
          · have := hps b hb
            have ne : b ≠ a := fun z => nps (z ▸ hb)
            rwa [upd_ne ne] at this
      by_cases ho1 : o = 1
      · subst ho1
        have hd1 : isDisp e = true := by
          simp at hd1
          exact hd1
        have fin : ∀ {t : TE}, PE X x t → (∀ {σ : St} {H : Hp} {Q : VK} {F G : Hp} {θ : List Addr} {s : Sta} {l : List Tr} {s1 : Sta}, Rel (MX D.cl X) F G θ s σ H → evX gc cf e false s = .ok (.lst l) s1 →
            (∀ p xs H1 F1 θ1, H1 p = none → Rel (MX D.cl X) F1 G θ1 s1 σ H1 → FLe F F1 → θ <+: θ1 → Rps (MX D.cl X) F1 θ1 l xs → Q (.ref p) (upd H1 p (.lst xs))) → t σ H Q) →
            (∀ {s : Sta} {t : Tr} {s1 : Sta}, evX gc cf e false s = .ok t s1 → ∃ l, t = .lst l) → PA X (x :: xs) (RM gc cf (MX D.cl X) ((i, 1) :: is) (e :: es)) := by
          intro tt pe hr hl
          refine finG pe fun {σ H Q F G θ s t s1} R e1 k => ?_
          obtain ⟨l, rfl⟩ := hl e1
          exact hr R e1 fun p xs H1 F1 θ1 np R1 l1 p1 r => k p (.lst l) (.lst xs) H1 F1 θ1 rfl np R1 l1 p1 ⟨xs, rfl, r⟩
        cases e with
        | lst es0 =>
          simp only [chk] at h3
          split at h3
          · have pa := sEs es0 X sc _ C h3
            refine fin (pe_lst pa) (fun {σ H Q F G θ s l s1} R ev k => ?_) (fun {s t s1} ev => ?_)
            · simp only [evX, fin] at ev
              obtain ⟨ts, s2, e1, ev⟩ := Rs.bind_eq ev
              split at ev
              · rename_i hc
                obtain ⟨q1, q2⟩ := all_pure hc
                cases ev
                refine ⟨F, G, θ, s, _, _, R, e1, fun vs H1 F1 θ1 R1 l1 p1 r1 => ?_⟩
                have r := r1.rps q1
                exact ⟨by rw [r.length]; exact q2, fun p np => k p vs H1 F1 θ1 np R1 l1 p1 r⟩
              · cases ev
            · simp only [evX, fin] at ev
              obtain ⟨ts, s2, e1, ev⟩ := Rs.bind_eq ev
              split at ev
              · cases ev; exact ⟨_, rfl⟩
              · cases ev
          · cases h3
        | bi b es0 =>
          cases b <;> first | (exact (Bool.false_ne_true hd1).elim) | skip
          simp only [chk] at h3
          split at h3
          · rename_i y p1 xs1 p2 hdum
            obtain ⟨h4, h5⟩ := and2 h3
            obtain ⟨e1', g1, m1⟩ := blB_ok C h4
            subst e1'
            have pa := sEs es0 X sc _ C h5
            cases es0 with
            | nil =>
              refine ⟨fun p pins s0 σ H Q I hh => ?_⟩
              obtain ⟨F, G, θ, s, ts, s', R, ev, hp, k⟩ := hh
              simp only [evEs, evX, fin] at ev
              obtain ⟨t, s1, e1, ev⟩ := Rs.bind_eq ev
              simp only [Rs.bind, List.map_nil, List.all_nil, if_true, biT_nil, Rs.of] at e1
              cases e1
            | cons e0 es1 =>
              cases xs1 with
              | nil => exact nomatch h5
              | cons z zs =>
                simp only [chks] at h5
                obtain ⟨h6, h7⟩ := and2 h5
                obtain ⟨h6, h8⟩ := and2 h6
                have lo : ∀ {ts : List Tr} {t : Tr}, biT .listOf ts = some t → ∃ x l, ts = [x] ∧ seqT x = some l ∧ t = .lst l := by
                  intro ts t h
                  simp only [biT] at h
                  split at h
                  all_goals first
                    | (cases h; done)
                    | contradiction
                    | (cases h; exact ⟨_, _, rfl, rfl, rfl⟩)
                refine fin (pe_callTy (T := "list") call_list_of g1 m1 (by decide +kernel) pa (by decide) (by decide) (star_cons (by simpa using h6)) (chks_plain h7)) (fun {σ H Q F G θ s l s1} R ev k => ?_) (fun {s t s1} ev => ?_)
                · simp only [evX, fin] at ev
                  obtain ⟨ts, s2, e1, ev⟩ := Rs.bind_eq ev
                  split at ev
                  · rename_i hpp
                    obtain ⟨e2, rfl⟩ := Rs.of_eq ev
                    obtain ⟨x0, l0, e3, e4, e5⟩ := lo e2
                    cases e5
                    refine ⟨F, G, θ, s, ts, _, R, e1, fun vs H1 F1 θ1 R1 l1 p1 r1 => ?_⟩
                    have rr := R1.reads r1 hpp
                    rw [e3] at rr
                    cases rr with
                    | cons q1 q2 =>
                      cases q2
                      obtain ⟨a, ws, rfl, q, r⟩ := seqH R1.m.fle e4 q1
                      exact ⟨a, ws, rfl, q, fun p np => k p ws H1 F1 θ1 np R1 l1 p1 r⟩
                  · cases ev
                · simp only [evX, fin] at ev
                  obtain ⟨ts, s2, e1, ev⟩ := Rs.bind_eq ev
                  split at ev
                  · obtain ⟨e2, rfl⟩ := Rs.of_eq ev
                    obtain ⟨x0, l0, e3, e4, e5⟩ := lo e2
                    exact ⟨l0, e5⟩
                  · cases ev
          · cases h3
        | _ => exact (Bool.false_ne_true hd1).elim
      have hd2' : (o = 2 ∨ o = 3 ∨ o = 4) ∧ isDsp0 e = true := by
        simp [ho, ho1] at hd1
        exact ⟨by rcases hd1.1 with (z | z) | z <;> simp [z], hd1.2⟩
      obtain ⟨hd3, hd4⟩ := hd2'
      have he : e = .dsp [] := by
        cases e with
        | dsp es => cases es with
          | nil => rfl
          | cons _ _ => cases hd4
        | _ => cases hd4
      subst he
      simp only [chk] at h3
      split at h3
      · rename_i ks vs pos hx9
        have hc := (and2 h3).1
        have h0 : ks = [] ∧ vs = [] := by
          simp only [chkPs] at hc
          split at hc
          · exact ⟨rfl, rfl⟩
          · cases hc
        obtain ⟨rfl, rfl⟩ := h0
        have evd : ∀ {s : Sta} {t : Tr} {s1 : Sta}, evX gc cf (.dsp []) false s = .ok t s1 → t = .dk [] [] ∧ s = s1 := by
          intro s t s1 e1
          simp [evX, fin, evEs, Rs.bind, dspT] at e1
          exact ⟨e1.1.symm, e1.2⟩
        rcases hd3 with rfl | rfl | rfl
        · refine finG pe_dnewK fun {σ H Q F G θ s t s1} R e1 k p np => ?_
          obtain ⟨rfl, rfl⟩ := evd e1
          exact k p (.dk [] []) (.dK []) H F θ rfl np R (FLe.refl F) (List.prefix_refl _) ⟨[], rfl, rfl, .nil⟩
        · refine finG pe_dnewT' fun {σ H Q F G θ s t s1} R e1 k p np => ?_
          obtain ⟨rfl, rfl⟩ := evd e1
          exact k p (.dt [] []) (dtO X.prog X.w p []) H F θ rfl np R (FLe.refl F) (List.prefix_refl _) ⟨[], rfl, rfl, .nil, fun p hp => by cases hp⟩
        · refine finG pe_dnewN' fun {σ H Q F G θ s t s1} R e1 k p np => ?_
          obtain ⟨rfl, rfl⟩ := evd e1
          exact k p (.dn [] []) (dnO X.prog X.w p []) H F θ rfl np R (FLe.refl F) (List.prefix_refl _) ⟨[], rfl, rfl, .nil, fun p hp => by cases hp⟩
      · cases h3
/-! names as targets -/
noncomputable def chkN (N : List Str) (sc : Scope) : List (Nat × Nat) → List Expr → Bool
  | [], ts => match ts with
    | [] => true
    | _ => false
  | (i, _) :: is, ts => match ts with
    | .Name x _ :: ts => decide (N[i]? = some x) && locB sc x && chkN N sc is ts
    | _ => false
theorem sNs (C : Cxt D gc cf X sc) : ∀ (is : List (Nat × Nat)) (ts : List Expr), chkN X.N sc is ts = true → PGs X ts (fun vs σ H Q => vs.length = is.length ∧ Q (setAll σ is vs) H) ∧ (assignEach ts X.env).length = is.length ∧ (assignEach ts X.env).findIdx? (·.1) = none
  | [], ts, h => by
    cases ts with
    | cons _ _ => exact nomatch h
    | nil =>
      refine ⟨⟨fun pins s0 σ H vs us Q I r q => ?_⟩, rfl, rfl⟩
      obtain ⟨h1, h2⟩ := q
      have : vs = [] := List.length_eq_zero_iff.mp h1
      subst this
      exact pgs_nil.run pins s0 σ H [] us Q I r ⟨rfl, h2⟩
  | (i, o) :: is, ts, h => by
    cases ts with
    | nil => exact nomatch h
    | cons t ts =>
      simp only [chkN] at h
      split at h
      · rename_i x px ts' heq
        cases heq
        obtain ⟨h1, h2⟩ := and2 h
        obtain ⟨h1, h3⟩ := and2 h1
        obtain ⟨hl, hf⟩ := C.loc x h3
        obtain ⟨g1, g2, g3⟩ := sNs C is _ h2
        refine ⟨⟨fun pins s0 σ H vs us Q I r q => ?_⟩, ?_, ?_⟩
        · obtain ⟨q1, q2⟩ := q
          cases vs with
          | nil => cases q1
          | cons v vs =>
            exact (pgs_cons (pg_name (i := i) C.nd (of_decide_eq_true h1) hl hf) g1 (by rfl)).run pins s0 σ H (v :: vs) us Q I r ⟨v, vs, rfl, by simpa using q1, q2⟩
        · show ((false, _) :: assignEach _ X.env).length = _
          rw [List.length_cons, g2, List.length_cons]
        · show ((false, _) :: assignEach _ X.env).findIdx? _ = none
          rw [List.findIdx?_cons]
          simp [g3]
      · cases h
theorem len3 {α : Type} {l : List α} (h : l.length = 3) : ∃ a b c, l = [a, b, c] := by
  match l, h with
  | [a, b, c], _ => exact ⟨a, b, c, rfl⟩
theorem chkN_len {N : List Str} : ∀ {is : List (Nat × Nat)} {ts : List Expr}, chkN N sc is ts = true → ts.length = is.length
  | [], ts, h => by
    cases ts with
    | cons _ _ => exact nomatch h
    | nil => rfl
  | (i, o) :: is, ts, h => by
    cases ts with
    | nil => exact nomatch h
    | cons t ts =>
      simp only [chkN] at h
      split at h
      · rename_i heq
        cases heq
        rw [List.length_cons, List.length_cons, chkN_len (and2 h).2]
      · cases h
theorem swQ_len {ts vs : List Expr} {ns : List Str} (h : swQ sc ts vs = some (some ns)) : (ts.length = 2 ∧ vs.length = 2) ∨ (ts.length = 3 ∧ vs.length = 3) := by
  unfold swQ at h
  split at h
  · cases h
  · rename_i c
    simp at c
    omega
theorem sMany (C : Cxt D gc cf X sc) (hsc : X.env.scope = sc) (hfun : sc.kind = .function) {is : List (Nat × Nat)} {es : List Ex} {ts vs : List Expr} {k1 k2 : Nat} {p1 p2 pos : Pos} (hz : is.length ≤ sizeLine) (hn : chkN X.N sc is ts = true) (hd : dispOk is es = true) (hc : chks D X.N sc es vs = true)
    (hsw : (match swQ sc ts vs with
      | none => false
      | some none => true
      | some (some ns) => decide (ns = is.map fun p => X.N.getD p.1 "") && (is.map (·.1)).all (fun i => sc.names.lookup (X.N.getD i "") == some .local) && decide ((is.map (·.1)).Nodup)) = true) : PS X (.Assign [.Tuple ts k1 p1] (.Tuple vs k2 p2) pos) (RS gc cf wf (MX D.cl X) (.many is es)) := by
  have pm := sM C is es vs hd hc
  obtain ⟨g1, g2, g3⟩ := sNs C is ts hn
  have rd : ∀ {σ : St} {H : Hp} {D' : Ends}, RS gc cf wf (MX D.cl X) (.many is es) D' σ H → RM gc cf (MX D.cl X) is es σ H (fun ws H1 => ws.length = is.length ∧ ws.length ≤ sizeLine ∧ D'.nx (setAll σ is ws) H1 ∧ ∀ p xs, H1 p = none → D'.nx (setAll σ is ws) (upd H1 p (.tup xs))) := by
    intro σ H D' hh
    obtain ⟨F, G, θ, s, fl, s', R, ev, k⟩ := hh
    simp only [exS] at ev
    obtain ⟨tt, s1, e1, ev⟩ := Rs.bind_eq ev
    split at ev
    · rename_i hp
      split at ev
      · rename_i env em
        cases ev
        refine ⟨F, G, θ, s, tt, s1, R, e1, hp, fun ws H' F' G' θ' ps R' l' lg p' mo hps => ⟨mo.len, ?_, ?_, fun p xs np => ?_⟩⟩
        · rw [mo.len]; exact hz
        · exact k _ _ F' θ' (manyRel is tt ws ps _ _ _ G' mo em R' lg hps) l' p'
        · exact k _ _ F' θ' (manyRel is tt ws ps _ _ _ G' mo em (R'.junk np) lg hps) l' p'
      · cases ev
    · cases ev
  have hk : X.env.scope.kind = .function := by rw [hsc]; exact hfun
  split at hsw
  · cases hsw
  · rename_i hq
    have w1 : swappedStores [.Tuple ts k1 p1] (.Tuple vs k2 p2) X.env = pure none := swQ_ok hk (by rw [hsc]; exact hq)
    refine ⟨fun pins s0 σ H D' I hh => ?_⟩
    refine (ps_asg (pe_tup pm) (pg_tup (n := is.length) C.calm g1 g2 g3) (by rfl) w1 (by rfl)).run pins s0 σ H D' I ?_
    obtain ⟨F, G, θ, s, tt, s', R, e, hp, k⟩ := rd hh
    refine ⟨F, G, θ, s, tt, s', R, e, hp, fun ws H' F' G' θ' ps R' l' lg p' mo hps => ?_⟩
    obtain ⟨q1, q2, _, q3⟩ := k ws H' F' G' θ' ps R' l' lg p' mo hps
    exact ⟨q2, fun p np => ⟨p, ws, rfl, SqT.of upd_same, q1, q1, q3 p ws np⟩⟩
  · rename_i ns hq
    obtain ⟨h1, h2⟩ := and2 hsw
    obtain ⟨h1, h3⟩ := and2 h1
    have hns := of_decide_eq_true h1
    have hnd := of_decide_eq_true h2
    have w1 : swappedStores [.Tuple ts k1 p1] (.Tuple vs k2 p2) X.env = pure (some ns) := swQ_ok hk (by rw [hsc]; exact hq)
    have hl := swQ_len hq
    have hl2 := chkN_len hn
    rcases hl with ⟨l2, lv⟩ | ⟨l3, lv⟩
    · obtain ⟨t1, t2, rfl⟩ := len2 l2
      obtain ⟨⟨i, o1⟩, ⟨j, o2⟩, rfl⟩ := len2 (hl2.symm.trans l2)
      obtain ⟨v1, v2, rfl⟩ := len2 lv
      simp only [chkN] at hn
      split at hn
      · rename_i x px _ heq
        cases heq
        obtain ⟨hA, hB⟩ := and2 hn
        obtain ⟨hA, _⟩ := and2 hA
        split at hB
        · rename_i y py _ heq
          cases heq
          obtain ⟨hC, _⟩ := and2 hB
          obtain ⟨hC, _⟩ := and2 hC
          have ni := of_decide_eq_true hA
          have nj := of_decide_eq_true hC
          simp only [List.map_cons, List.map_nil, List.all_cons, List.all_nil, Bool.and_true] at h3 hns hnd
          obtain ⟨h4, h5⟩ := and2 h3
          have ei : X.N.getD i "" = x := by rw [List.getD_eq_getElem?_getD, ni]; rfl
          have ej : X.N.getD j "" = y := by rw [List.getD_eq_getElem?_getD, nj]; rfl
          rw [ei, ej] at hns
          rw [ei] at h4
          rw [ej] at h5
          subst hns
          have hij : i ≠ j := fun z => by subst z; simp at hnd
          refine ⟨fun pins s0 σ H D' I hh => ?_⟩
          refine (ps_par C.calm C.nd ni nj hij (by rw [hsc]; exact eq_of_beq h4) (by rw [hsc]; exact eq_of_beq h5) pm w1 (by rfl)).run pins s0 σ H D' I ?_
          obtain ⟨F, G, θ, s, tt, s', R, e, hp, k⟩ := rd hh
          refine ⟨F, G, θ, s, tt, s', R, e, hp, fun ws H' F' G' θ' ps R' l' lg p' mo hps => ?_⟩
          obtain ⟨q1, q2, q4, q3⟩ := k ws H' F' G' θ' ps R' l' lg p' mo hps
          obtain ⟨w1, w2, rfl⟩ := len2 q1
          exact ⟨w1, w2, rfl, q4⟩
        · cases hB
      · cases hn
    · obtain ⟨t1, t2, t3, rfl⟩ := len3 l3
      obtain ⟨⟨i, o1⟩, ⟨j, o2⟩, ⟨l, o3⟩, rfl⟩ := len3 (hl2.symm.trans l3)
      obtain ⟨v1, v2, v3, rfl⟩ := len3 lv
      simp only [chkN] at hn
      split at hn
      · rename_i x px _ heq
        cases heq
        obtain ⟨hA, hB⟩ := and2 hn
        obtain ⟨hA, _⟩ := and2 hA
        split at hB
        · rename_i y py _ heq
          cases heq
          obtain ⟨hC, hB⟩ := and2 hB
          obtain ⟨hC, _⟩ := and2 hC
          split at hB
          · rename_i z pz _ heq
            cases heq
            obtain ⟨hE, _⟩ := and2 hB
            obtain ⟨hE, _⟩ := and2 hE
            have ni := of_decide_eq_true hA
            have nj := of_decide_eq_true hC
            have nl := of_decide_eq_true hE
            simp only [List.map_cons, List.map_nil, List.all_cons, List.all_nil, Bool.and_true] at h3 hns hnd
            obtain ⟨h4, h5⟩ := and2 h3
            obtain ⟨h5, h6⟩ := and2 h5
            have ei : X.N.getD i "" = x := by rw [List.getD_eq_getElem?_getD, ni]; rfl
            have ej : X.N.getD j "" = y := by rw [List.getD_eq_getElem?_getD, nj]; rfl
            have el : X.N.getD l "" = z := by rw [List.getD_eq_getElem?_getD, nl]; rfl
            rw [ei, ej, el] at hns
            rw [ei] at h4
            rw [ej] at h5
            rw [el] at h6
            subst hns
            have hij : i ≠ j := fun z => by subst z; simp at hnd
            have hil : i ≠ l := fun z => by subst z; simp at hnd
            have hjl : j ≠ l := fun z => by subst z; simp at hnd
            refine ⟨fun pins s0 σ H D' I hh => ?_⟩
            refine (ps_par3 C.calm C.nd ni nj nl hij hil hjl (by rw [hsc]; exact eq_of_beq h4) (by rw [hsc]; exact eq_of_beq h5) (by rw [hsc]; exact eq_of_beq h6) pm w1 (by rfl)).run pins s0 σ H D' I ?_
            obtain ⟨F, G, θ, s, tt, s', R, e, hp, k⟩ := rd hh
            refine ⟨F, G, θ, s, tt, s', R, e, hp, fun ws H' F' G' θ' ps R' l' lg p' mo hps => ?_⟩
            obtain ⟨q1, q2, q4, q3⟩ := k ws H' F' G' θ' ps R' l' lg p' mo hps
            obtain ⟨w1, w2, w3, rfl⟩ := len3 q1
            exact ⟨w1, w2, w3, rfl, q4⟩
          · cases hB
        · cases hB
      · cases hn
end
end Ev
/-! Soundness of statements: the checker, the theorem; defs and calls. -/
namespace Ev
open PySem PySem.Spec L2
open PyProof.Rows hiding St
noncomputable def swOk (sc : Scope) (t v : Expr) : Bool := !isTupE v || (match t, v with
  | .Tuple ts _ _, .Tuple vs _ _ => (match swQ sc ts vs with
    | some none => true
    | _ => false)
  | _, _ => false)
theorem swOk_ok {sc : Scope} {env : Env} {t v : Expr} (h : swOk sc t v = true) (hk : env.scope.kind = .function) (hs : env.scope = sc) : ∀ es kk p, t = .Tuple es kk p → swappedStores [.Tuple es kk p] v env = pure none := by
  intro es kk p e
  subst e
  unfold swOk at h
  cases hv : isTupE v with
  | false => cases v <;> first | rfl | (exact nomatch hv)
  | true =>
    rw [hv] at h
    cases v <;> first | (cases hv; done) | skip
    simp only [Bool.not_true, Bool.false_or] at h
    split at h
    · rename_i hq
      exact swQ_ok hk (by rw [hs]; exact hq)
    · cases h
noncomputable def notO : Ex → Bool
  | .compO _ _ _ _ _ => false
  | _ => true
mutual
noncomputable def chkS (D : Ds) (N : List Str) (sc : Scope) : Sm → Stmt → Bool
  | .set i e, st => match st with
    | .Assign [.Name x px] v pos => decide (N[i]? = some x) && locB sc x && chk D N sc e v && (match v with
      | .ListComp _ _ scope p => notO e && (!(sc.names.lookup x == some .local && px.line == p.line && !(scope.names.any fun (n, k) => n == x && (k == .local || k == .cell))) || sc.names.lookup x == some .local)
      | v => !isCompE v)
    | _ => false
  | .own i es, st => match st with
    | .Assign [.Name x _] (.List xs _) _ => decide (N[i]? = some x) && locB sc x && chks D N sc es xs
    | _ => false
  | .ownOf i e, st => match st with
    | .Assign [.Name x _] (.Call (.Name y _) [z] [] _) _ => decide (N[i]? = some x) && locB sc x && blB D sc y "list" && !isStar z && chk D N sc e z
    | _ => false
  | .many is es, st => match st with
    | .Assign [.Tuple ts _ _] (.Tuple vs _ _) _ => decide (is.length ≤ sizeLine) && chkN N sc is ts && dispOk is es && chks D N sc es vs && (match swQ sc ts vs with
      | none => false
      | some none => true
      | some (some ns) => decide (ns = is.map fun p => N.getD p.1 "") && (is.map (·.1)).all (fun i => sc.names.lookup (N.getD i "") == some .local) && decide ((is.map (·.1)).Nodup))
    | _ => false
  | .tgt tg e, st => match st with
    | .Assign [t] v _ => chkT N sc tg t && isTp tg && chk D N sc e v && swOk sc t v
    | _ => false
  | .aug i o e, st => match st with
    | .AugAssign (.Name x _) op v _ => decide (op = o.py) && decide (o.py = .Add ∨ o.py = .Sub) && decide (N[i]? = some x) && locB sc x && chk D N sc e v
    | _ => false
  | .put o k v, st => match st with
    | .Assign [.Subscript a b _] w _ => !isSlice b && chk D N sc o a && chk D N sc k b && chk D N sc v w
    | _ => false
  | .app i e, st => match st with
    | .Expr (.Call (.Attribute (.Name x _) m ap) [z] [] cp) _ => decide (m = ("append" : Str)) && decide (N[i]? = some x) && visB sc x && okN x && (ap.endLine == cp.line) && !isStar z && chk D N sc e z
    | _ => false
  | .ext i e, st => match st with
    | .Expr (.Call (.Attribute (.Name x _) m ap) [z] [] cp) _ => decide (m = ("extend" : Str)) && decide (N[i]? = some x) && visB sc x && okN x && (ap.endLine == cp.line) && !isStar z && chk D N sc e z
    | _ => false
  | .ex e, st => match st with
    | .Expr v _ => !isCompE v && chk D N sc e v
    | _ => false
  | .ret e, st => match st with
    | .Return (some v) _ => chk D N sc e v
    | _ => false
  | .ownE i e, st => match e with
    | .sl a lo hi => (match st with
      | .Assign [.Name x _] (.Subscript y (.Slice l h none _) _) _ => decide (N[i]? = some x) && locB sc x && chk D N sc a y && (match l with
        | none => isNul lo
        | some l => !isNul lo && chk D N sc lo l) && (match h with
        | none => isNul hi
        | some h => !isNul hi && chk D N sc hi h)
      | _ => false)
    | .bin o a b => (match o, st with
      | .add, .Assign [.Name x _] (.BinOp y .Add z _) _ => decide (N[i]? = some x) && locB sc x && chk D N sc a y && chk D N sc b z
      | _, _ => false)
    | .comp k elt tg its cond own => (match st with
      | .Assign [.Name x px] (.ListComp e' gs scope p) _ => decide (N[i]? = some x) && locB sc x && chk D N sc (.comp k elt tg its cond own) (.ListComp e' gs scope p) && (!(sc.names.lookup x == some .local && px.line == p.line && !(scope.names.any fun (n, k) => n == x && (k == .local || k == .cell))) || sc.names.lookup x == some .local)
      | _ => false)
    | _ => false
  | .ownD i t, st => match st with
    | .Assign [.Name x _] (.Dict [] [] _) _ => decide (N[i]? = some x) && locB sc x
    | _ => false
  | .dput i k v, st => match st with
    | .Assign [.Subscript (.Name x _) b _] w _ => decide (N[i]? = some x) && visB sc x && okN x && !isSlice b && chk D N sc k b && chk D N sc v w
    | _ => false
  | .setAt i k v, st => match st with
    | .Assign [.Subscript (.Name x _) b _] w _ => decide (N[i]? = some x) && visB sc x && okN x && !isSlice b && chk D N sc k b && chk D N sc v w
    | _ => false
  | .fset o f e, st => match st with
    | .Assign [.Attribute a g _] w _ => decide (f = g) && decide (f ∈ D.fl) && chk D N sc o a && chk D N sc e w
    | _ => false
  | .appO a e, st => match st with
    | .Expr (.Call (.Attribute x m ap) [z] [] cp) _ => decide (m = ("append" : Str)) && !isCall x && (ap.endLine == cp.line) && !isStar z && chk D N sc a x && chk D N sc e z
    | _ => false
  | .retN, st => match st with
    | .Return none _ => true
    | _ => false
  | .ite c a b, st => match st with
    | .If t x y _ => chk D N sc c t && chkSs D N sc a x && chkSs D N sc b y
    | _ => false
  | .forr k tg its b, st => match st with
    | .For tge iter y [] _ => !isSetE iter && chkT N sc tg tge && chkIt D N sc k tg its iter && chkSs D N sc b y
    | _ => false
  | .whl c b, st => match st with
    | .While t y [] _ => chk D N sc c t && chkSs D N sc b y
    | _ => false
  | .brk, st => match st with
    | .Break _ => true
    | _ => false
  | .cont, st => match st with
    | .Continue _ => true
    | _ => false
  | .pass, st => match st with
    | .Pass _ => true
    | _ => false
  | .bad, _ => true
noncomputable def chkSs (D : Ds) (N : List Str) (sc : Scope) : List Sm → List Stmt → Bool
  | [], ss => match ss with
    | [] => true
    | _ => false
  | a :: b, ss => match ss with
    | x :: y => chkS D N sc a x && chkSs D N sc b y
    | _ => false
end
section
variable {D : Ds} {gc : Nat → Option Tr} {cf : CF} {wf : Nat} {X : Cx} {sc : Scope}
/-- an assignment of a comprehension -/
theorem sSetComp' (C : Cxt D gc cf X sc) (hsc : X.env.scope = sc) (hfun : sc.kind = .function) {i : Nat} {e : Ex} {x : Str} {px pos p : Pos} {elt : Expr} {gs : List Comprehension} {scope : Scope} (hN : X.N[i]? = some x) (hl : locB sc x = true) (he : chk D X.N sc e (.ListComp elt gs scope p) = true)
    (hno : notO e = true) (hx : (!(sc.names.lookup x == some .local && px.line == p.line && !(scope.names.any fun (n, k) => n == x && (k == .local || k == .cell))) || sc.names.lookup x == some .local) = true) : PS X (.Assign [.Name x px] (.ListComp elt gs scope p) pos) (RS gc cf wf (MX D.cl X) (.set i e)) := by
  have hsn := sX e X sc _ C he
  have hbk : X.env.blockKind = .function := by unfold Env.blockKind; rw [hsc, hfun]; rfl
  have hkd : ∀ y, X.env.kindOf y = sc.names.lookup y := fun y => by rw [← hsc]; rfl
  have hsw : swapsWith (.ListComp elt gs scope p) (some (.Name x px)) pos.line X.env = pure (sc.names.lookup x == some .local && px.line == p.line && !(scope.names.any fun (n, k) => n == x && (k == .local || k == .cell))) := by
    unfold swapsWith
    simp only [hbk, hkd, Expr.pos]
    rfl
  cases hb : (sc.names.lookup x == some .local && px.line == p.line && !(scope.names.any fun (n, k) => n == x && (k == .local || k == .cell))) with
  | false =>
    obtain ⟨h1, h2⟩ := C.loc x hl
    rw [hb] at hsw
    refine ⟨fun pins s0 σ H D' I hh => ?_⟩
    obtain ⟨F, G, θ, s, fl, s', R, ev, k⟩ := hh
    simp only [exS] at ev
    obtain ⟨t, s1, e1, ev⟩ := Rs.bind_eq ev
    split at ev
    · rename_i hc
      obtain ⟨h3, h4⟩ := and2 hc
      cases ev
      exact (ps_set C.nd hN h1 hsn.pe hsw h2).run pins s0 σ H D' I ⟨F, G, θ, s, t, s1, R, e1, fun v H1 F1 θ1 R1 l1 p1 r1 => k _ H1 F1 θ1 (R1.store (r1.rp h3) (of_decide_eq_true h4)) l1 p1⟩
    · cases ev
  | true =>
    rw [hb] at hsw
    have hloc : X.env.scope.names.lookup x = some .local := by
      rw [hsc]
      have := (and2 (and2 hb).1).1
      exact eq_of_beq this
    by_cases hbad : e = .bad
    · subst hbad
      exact ⟨fun pins s0 σ H D' I hh => by obtain ⟨F, G, θ, s, fl, s', R, ev, k⟩ := hh; simp only [exS, evX, Rs.bind] at ev; cases ev⟩
    cases e <;> try (first | exact absurd rfl hbad | (simp [notO] at hno; done) | (simp [chk] at he; done) | (simp only [chk] at he; split at he <;> cases he))
    rename_i k elt' tg its cond own
    simp only [chk] at he
    split at he
    · rename_i e' tg' iter ifs scope' pos' heq
      cases heq
      obtain ⟨h1, hit⟩ := and2 he
      obtain ⟨h1, hcond⟩ := and2 h1
      obtain ⟨h1, htg⟩ := and2 h1
      obtain ⟨h1, helt⟩ := and2 h1
      obtain ⟨h1, hblk⟩ := and2 h1
      obtain ⟨hset, hin⟩ := and2 h1
      have hI : PI X tg' iter (RI gc cf (MX D.cl X) k its) := sI C (fun e x he hx => by subst he; exact (sX e X sc x C hx).pe) (fun xs hxs => sEs its X sc xs C hxs) (.inr ⟨_, _, htg⟩) hit
      have hE : ∀ X' : Cx, Cxt D gc cf X' scope → X'.N = X.N → MX D.cl X' = MX D.cl X → Snd D gc cf X' elt' elt := fun X' C' hN _ => sX elt' X' scope elt C' (by rw [hN]; exact helt)
      cases ifs with
      | nil =>
        obtain ⟨t, ht, hr⟩ := sSetComp (tt := tYes) C hI hblk (by simpa using hset) hin hE htg (fun _ _ _ _ => pts_nil) (fun {σ H Q F G θ s b s'} R e k => by
          rw [if_pos hcond] at e
          cases e
          exact k H F θ R (FLe.refl F) (List.prefix_refl _)) hN hloc hsw
        exact sSetC C ht (fun hh => hr hh.reo)
      | cons c r =>
        cases r with
        | cons _ _ => cases hcond
        | nil =>
          obtain ⟨h2, h3⟩ := and2 hcond
          obtain ⟨t, ht, hr⟩ := sSetComp (tt := RT gc cf (MX D.cl X) cond) C hI hblk (by simpa using hset) hin hE htg (fun X' C' hN hK => by
              have z := pts_one (sX cond X' scope c C' (by rw [hN]; exact h3)).pt
              rw [hK] at z
              exact z) (fun {σ H Q F G θ s b s'} R e k => by
            rw [if_neg (by simpa using h2)] at e
            exact ⟨F, G, θ, s, b, s', R, e, k⟩) hN hloc hsw
          exact sSetC C ht (fun hh => hr hh.reo)
    · cases he
/-- an own list made by a comprehension -/
theorem sOwnC (C : Cxt D gc cf X sc) {i : Nat} {k : Nat} {elt cond : Ex} {tg : Tg} {its : List Ex} {own : List Nat} {st : Stmt} {t : TE} (hp : PS X st (tAsg t (gName i))) (hr : ∀ {σ : St} {H : Hp} {Q : VK}, REO gc cf (MX D.cl X) (.comp k elt tg its cond own) σ H Q → t σ H Q) : PS X st (RS gc cf wf (MX D.cl X) (.ownE i (.comp k elt tg its cond own))) := by
  refine ⟨fun pins s0 σ H D' I hh => ?_⟩
  obtain ⟨F, G, θ, s, fl, s', R, ev, kk⟩ := hh
  simp only [exS] at ev
  obtain ⟨t1, s1, e1, ev⟩ := Rs.bind_eq ev
  cases t1 <;> simp only [] at ev <;> try (cases ev; done)
  rename_i l
  split at ev
  · rename_i hi
    cases ev
    refine hp.run pins s0 σ H D' I (hr ⟨F, G, θ, s, l, s1, R, e1, fun H' F' θ' Da av B l' p' hD fD gD tD hw ra => ?_⟩)
    exact kk _ H' F' θ' (B.storeOwn (l := .lst l) (xs := .lst av) ⟨_, rfl, ra⟩ hD fD gD tD (fun j l2 _ e z => hw j l2 e z) hi) l' p'
  · cases ev
theorem sOwnComp (C : Cxt D gc cf X sc) (hsc : X.env.scope = sc) (hfun : sc.kind = .function) {i : Nat} {k : Nat} {elt' cond : Ex} {tg : Tg} {its : List Ex} {own : List Nat} {x : Str} {px pos p : Pos} {elt : Expr} {gs : List Comprehension} {scope : Scope} (hN : X.N[i]? = some x) (hl : locB sc x = true) (he : chk D X.N sc (.comp k elt' tg its cond own) (.ListComp elt gs scope p) = true)
    (hx : (!(sc.names.lookup x == some .local && px.line == p.line && !(scope.names.any fun (n, k) => n == x && (k == .local || k == .cell))) || sc.names.lookup x == some .local) = true) : PS X (.Assign [.Name x px] (.ListComp elt gs scope p) pos) (RS gc cf wf (MX D.cl X) (.ownE i (.comp k elt' tg its cond own))) := by
  have hbk : X.env.blockKind = .function := by unfold Env.blockKind; rw [hsc, hfun]; rfl
  have hkd : ∀ y, X.env.kindOf y = sc.names.lookup y := fun y => by rw [← hsc]; rfl
  have hsw : swapsWith (.ListComp elt gs scope p) (some (.Name x px)) pos.line X.env = pure (sc.names.lookup x == some .local && px.line == p.line && !(scope.names.any fun (n, k) => n == x && (k == .local || k == .cell))) := by
    unfold swapsWith
    simp only [hbk, hkd, Expr.pos]
    rfl
  obtain ⟨h1', h2'⟩ := C.loc x hl
  simp only [chk] at he
  split at he
  · rename_i e' tg' iter ifs scope' pos' heq
    cases heq
    obtain ⟨h1, hit⟩ := and2 he
    obtain ⟨h1, hcond⟩ := and2 h1
    obtain ⟨h1, htg⟩ := and2 h1
    obtain ⟨h1, helt⟩ := and2 h1
    obtain ⟨h1, hblk⟩ := and2 h1
    obtain ⟨hset, hin⟩ := and2 h1
    have hI : PI X tg' iter (RI gc cf (MX D.cl X) k its) := sI C (fun e x he hx => by subst he; exact (sX e X sc x C hx).pe) (fun xs hxs => sEs its X sc xs C hxs) (.inr ⟨_, _, htg⟩) hit
    have hE : ∀ X' : Cx, Cxt D gc cf X' scope → X'.N = X.N → MX D.cl X' = MX D.cl X → Snd D gc cf X' elt' elt := fun X' C' hN _ => sX elt' X' scope elt C' (by rw [hN]; exact helt)
    have both : ∃ tt : TT, (∀ X' : Cx, Cxt D gc cf X' scope → X'.N = X.N → MX D.cl X' = MX D.cl X → PTs X' ifs tt) ∧
        (∀ {σ : St} {H : Hp} {Q : Bool → Hp → Prop} {F G : Hp} {θ : List Addr} {s : Sta} {b : Bool} {s' : Sta}, Rel (MX D.cl X) F G θ s σ H → (if isNul cond then .ok (.bl true) s else evX gc cf cond true s) = .ok (.bl b) s' → (∀ H' F' θ', Rel (MX D.cl X) F' G θ' s' σ H' → FLe F F' → θ <+: θ' → Q b H') → tt σ H Q) := by
      cases ifs with
      | nil =>
        refine ⟨tYes, fun _ _ _ _ => pts_nil, fun {σ H Q F G θ s b s'} R e k => ?_⟩
        rw [if_pos hcond] at e
        cases e
        exact k H F θ R (FLe.refl F) (List.prefix_refl _)
      | cons c r =>
        cases r with
        | cons _ _ => cases hcond
        | nil =>
          obtain ⟨h2, h3⟩ := and2 hcond
          refine ⟨RT gc cf (MX D.cl X) cond, fun X' C' hN hK => ?_, fun {σ H Q F G θ s b s'} R e k => ?_⟩
          · have z := pts_one (sX cond X' scope c C' (by rw [hN]; exact h3)).pt
            rw [hK] at z
            exact z
          · rw [if_neg (by simpa using h2)] at e
            exact ⟨F, G, θ, s, b, s', R, e, k⟩
    obtain ⟨tt, hC1, hC2⟩ := both
    cases hb : (sc.names.lookup x == some .local && px.line == p.line && !(scope.names.any fun (n, k) => n == x && (k == .local || k == .cell))) with
    | false =>
      rw [hb] at hsw
      obtain ⟨t, ht, hr⟩ := sCompP (tt := tt) C hI hblk (by simpa using hset) hin hE htg hC1 hC2
      exact sOwnC C (ps_set C.nd hN h1' ht hsw h2') hr
    | true =>
      rw [hb] at hsw
      have hloc : X.env.scope.names.lookup x = some .local := by
        rw [hsc]
        have := (and2 (and2 hb).1).1
        exact eq_of_beq this
      obtain ⟨t, ht, hr⟩ := sSetComp (tt := tt) C hI hblk (by simpa using hset) hin hE htg hC1 hC2 hN hloc hsw
      exact sOwnC C ht hr
  · cases he
mutual
theorem sS (C : Cxt D gc cf X sc) (hsc : X.env.scope = sc) (hfun : sc.kind = .function) : ∀ (a : Sm) (st : Stmt), chkS D X.N sc a st = true → PS X st (RS gc cf wf (MX D.cl X) a)
  | .set i e, st, h => by
    simp only [chkS] at h
    split at h
    · rename_i x px v pos
      obtain ⟨h1, h4⟩ := and2 h
      obtain ⟨h1, h3⟩ := and2 h1
      obtain ⟨h1, h2⟩ := and2 h1
      have hN := of_decide_eq_true h1
      cases v <;> first
        | exact sSetComp' C hsc hfun hN h2 h3 (and2 h4).1 (and2 h4).2
        | exact sSet C hN h2 (sX e X sc _ C h3).pe (by simpa using h4)
    · cases h
  | .own i es, st, h => by
    simp only [chkS] at h
    split at h
    · obtain ⟨h1, h3⟩ := and2 h
      obtain ⟨h1, h2⟩ := and2 h1
      exact sOwn C (of_decide_eq_true h1) h2 (sEs es X sc _ C h3)
    · cases h
  | .ownOf i e, st, h => by
    simp only [chkS] at h
    split at h
    · obtain ⟨h1, h5⟩ := and2 h
      obtain ⟨h1, h4⟩ := and2 h1
      obtain ⟨h1, h3⟩ := and2 h1
      obtain ⟨h1, h2⟩ := and2 h1
      have hN := of_decide_eq_true h1
      obtain ⟨rfl, g1, m1⟩ := blB_ok C h3
      exact sOwnOf C hN h2 g1 m1 (sX e X sc _ C h5).pe (by simpa using h4)
    · cases h
  | .many is es, st, h => by
    simp only [chkS] at h
    split at h
    · obtain ⟨h1, h5⟩ := and2 h
      obtain ⟨h1, h4⟩ := and2 h1
      obtain ⟨h1, h3⟩ := and2 h1
      obtain ⟨h1, h2⟩ := and2 h1
      exact sMany C hsc hfun (of_decide_eq_true h1) h2 h3 h4 h5
    · cases h
  | .tgt tg e, st, h => by
    simp only [chkS] at h
    split at h
    · obtain ⟨h1, h4⟩ := and2 h
      obtain ⟨h1, h3⟩ := and2 h1
      obtain ⟨h1, h2⟩ := and2 h1
      exact sTgt C h1 h2 (sX e X sc _ C h3).pe (swOk_ok h4 (by rw [hsc]; exact hfun) hsc)
    · cases h
  | .aug i o e, st, h => by
    simp only [chkS] at h
    split at h
    · obtain ⟨h1, h5⟩ := and2 h
      obtain ⟨h1, h4⟩ := and2 h1
      obtain ⟨h1, h3⟩ := and2 h1
      obtain ⟨h1, h2⟩ := and2 h1
      obtain rfl := of_decide_eq_true h1
      refine sAug C (of_decide_eq_true h3) h4 ?_ (sX e X sc _ C h5).pe
      cases o with
      | add => exact .inl rfl
      | sub => exact .inr rfl
      | _ => exact absurd (of_decide_eq_true h2) (by decide)
    · cases h
  | .put o k v, st, h => by
    simp only [chkS] at h
    split at h
    · obtain ⟨h1, h4⟩ := and2 h
      obtain ⟨h1, h3⟩ := and2 h1
      obtain ⟨h1, h2⟩ := and2 h1
      exact sPut C (by simpa using h1) (sX o X sc _ C h2).pe (sX k X sc _ C h3).pe (sX v X sc _ C h4).pe
    · cases h
  | .app i e, st, h => by
    simp only [chkS] at h
    split at h
    · obtain ⟨h1, h7⟩ := and2 h
      obtain ⟨h1, h6⟩ := and2 h1
      obtain ⟨h1, h5⟩ := and2 h1
      obtain ⟨h1, h4⟩ := and2 h1
      obtain ⟨h1, h3⟩ := and2 h1
      obtain ⟨h1, h2⟩ := and2 h1
      obtain rfl := of_decide_eq_true h1
      exact sApp (of_decide_eq_true h2) (C.vis _ h3) h4 h5 (by simpa using h6) (sX e X sc _ C h7).pe
    · cases h
  | .ext i e, st, h => by
    simp only [chkS] at h
    split at h
    · obtain ⟨h1, h7⟩ := and2 h
      obtain ⟨h1, h6⟩ := and2 h1
      obtain ⟨h1, h5⟩ := and2 h1
      obtain ⟨h1, h4⟩ := and2 h1
      obtain ⟨h1, h3⟩ := and2 h1
      obtain ⟨h1, h2⟩ := and2 h1
      obtain rfl := of_decide_eq_true h1
      exact sExt (of_decide_eq_true h2) (C.vis _ h3) h4 h5 (by simpa using h6) (sX e X sc _ C h7).pe
    · cases h
  | .ex e, st, h => by
    simp only [chkS] at h
    split at h
    · obtain ⟨h1, h2⟩ := and2 h
      exact sExp (by simpa using h1) (sX e X sc _ C h2).pe
    · cases h
  | .ret e, st, h => by
    simp only [chkS] at h
    split at h
    · exact sRet (sX e X sc _ C h).pe
    · cases h
  | .ownE i e, st, h => by
    cases e <;> first | (simp only [chkS] at h; cases h; done) | skip
    case bin o a b =>
      simp only [chkS] at h
      split at h
      · obtain ⟨h1, h4⟩ := and2 h
        obtain ⟨h1, h3⟩ := and2 h1
        obtain ⟨h1, h2⟩ := and2 h1
        exact sOwnAdd C (of_decide_eq_true h1) h2 (sX a X sc _ C h3).pe (sX b X sc _ C h4).pe
      · cases h
    case comp k elt tg its cond own =>
      simp only [chkS] at h
      split at h
      · obtain ⟨h1, h4⟩ := and2 h
        obtain ⟨h1, h3⟩ := and2 h1
        obtain ⟨h1, h2⟩ := and2 h1
        exact sOwnComp C hsc hfun (of_decide_eq_true h1) h2 h3 h4
      · cases h
    case sl a lo hi =>
      simp only [chkS] at h
      split at h
      · rename_i x px y l hh p2 p3 pos
        obtain ⟨h1, h5⟩ := and2 h
        obtain ⟨h1, h4⟩ := and2 h1
        obtain ⟨h1, h3⟩ := and2 h1
        obtain ⟨h1, h2⟩ := and2 h1
        refine sOwnSl C (of_decide_eq_true h1) h2 (sX a X sc _ C h3).pe (sPart ?_) (sPart ?_)
        · cases l with
          | none => exact h4
          | some l =>
            obtain ⟨g1, g2⟩ := and2 h4
            exact ⟨by simpa using g1, (sX lo X sc _ C g2).pe⟩
        · cases hh with
          | none => exact h5
          | some l =>
            obtain ⟨g1, g2⟩ := and2 h5
            exact ⟨by simpa using g1, (sX hi X sc _ C g2).pe⟩
      · cases h
  | .ownD i t, st, h => by
    simp only [chkS] at h
    split at h
    · obtain ⟨h1, h2⟩ := and2 h
      exact sOwnD C (of_decide_eq_true h1) h2
    · cases h
  | .dput i k v, st, h => by
    simp only [chkS] at h
    split at h
    · obtain ⟨h1, h6⟩ := and2 h
      obtain ⟨h1, h5⟩ := and2 h1
      obtain ⟨h1, h4⟩ := and2 h1
      obtain ⟨h1, h3⟩ := and2 h1
      obtain ⟨h1, h2⟩ := and2 h1
      exact sDput C (of_decide_eq_true h1) (C.vis _ h2) h3 (by simpa using h4) (sX k X sc _ C h5).pe (sX v X sc _ C h6).pe
    · cases h
  | .setAt i k v, st, h => by
    simp only [chkS] at h
    split at h
    · obtain ⟨h1, h6⟩ := and2 h
      obtain ⟨h1, h5⟩ := and2 h1
      obtain ⟨h1, h4⟩ := and2 h1
      obtain ⟨h1, h3⟩ := and2 h1
      obtain ⟨h1, h2⟩ := and2 h1
      exact sSetAt C (of_decide_eq_true h1) (C.vis _ h2) h3 (by simpa using h4) (sX k X sc _ C h5).pe (sX v X sc _ C h6).pe
    · cases h
  | .fset o f e, st, h => by
    simp only [chkS] at h
    split at h
    · obtain ⟨h1, h5⟩ := and2 h
      obtain ⟨h1, h4⟩ := and2 h1
      obtain ⟨h1, h2⟩ := and2 h1
      obtain rfl := of_decide_eq_true h1
      exact sFset C (of_decide_eq_true h2) (sX o X sc _ C h4).pe (sX e X sc _ C h5).pe
    · cases h
  | .appO a e, st, h => by
    simp only [chkS] at h
    split at h
    · obtain ⟨h1, h6⟩ := and2 h
      obtain ⟨h1, h5⟩ := and2 h1
      obtain ⟨h1, h4⟩ := and2 h1
      obtain ⟨h1, h3⟩ := and2 h1
      obtain ⟨h1, h2⟩ := and2 h1
      obtain rfl := of_decide_eq_true h1
      exact sAppO (by simpa using h2) h3 (by simpa using h4) (sX a X sc _ C h5).pe (sX e X sc _ C h6).pe
    · cases h
  | .retN, st, h => by
    simp only [chkS] at h
    split at h
    · exact sRetN
    · cases h
  | .ite c a b, st, h => by
    simp only [chkS] at h
    split at h
    · obtain ⟨h1, h3⟩ := and2 h
      obtain ⟨h1, h2⟩ := and2 h1
      exact sIf (sX c X sc _ C h1).pt (sSs C hsc hfun a _ h2) (sSs C hsc hfun b _ h3)
    · cases h
  | .forr k tg its b, st, h => by
    simp only [chkS] at h
    split at h
    · obtain ⟨h1, h4⟩ := and2 h
      obtain ⟨h1, h3⟩ := and2 h1
      obtain ⟨h1, h2⟩ := and2 h1
      exact sFor C (by simpa using h1) h2 (sI C (fun e x he hx => by subst he; exact (sX e X sc x C hx).pe) (fun xs hxs => sEs its X sc xs C hxs) (.inl h2) h3) (sSs C hsc hfun b _ h4)
    · cases h
  | .whl c b, st, h => by
    simp only [chkS] at h
    split at h
    · obtain ⟨h1, h2⟩ := and2 h
      exact sWhile C (sX c X sc _ C h1).pt (sSs C hsc hfun b _ h2)
    · cases h
  | .brk, st, h => by
    simp only [chkS] at h
    split at h
    · exact sBrk
    · cases h
  | .cont, st, h => by
    simp only [chkS] at h
    split at h
    · exact sCont
    · cases h
  | .pass, st, h => by
    simp only [chkS] at h
    split at h
    · exact sPass
    · cases h
  | .bad, st, h => ⟨fun pins s0 σ H D' I hh => by obtain ⟨F, G, θ, s, fl, s', R, ev, k⟩ := hh; simp only [exS] at ev; cases ev⟩
theorem sSs (C : Cxt D gc cf X sc) (hsc : X.env.scope = sc) (hfun : sc.kind = .function) : ∀ (a : List Sm) (st : List Stmt), chkSs D X.N sc a st = true → PSs X st (RSs gc cf wf (MX D.cl X) a)
  | [], st, h => by
    cases st with
    | cons _ _ => exact nomatch h
    | nil => exact sNil
  | a :: b, st, h => by
    cases st with
    | nil => exact nomatch h
    | cons x y =>
      simp only [chkSs] at h
      obtain ⟨h1, h2⟩ := and2 h
      exact sCons (sS C hsc hfun a x h1) (sSs C hsc hfun b y h2)
end
end
end Ev
/-! Functions: every def of the text keeps the evaluator's promise. -/
namespace Ev
open PySem PySem.Spec L2
open PyProof.Rows hiding St
structure FnI where
  name : Str
  qual : Str
  st : Stmt
  N : List Str
  P : List Str
  cls : Option Str := none
  prm : Option (Nat × List Nat × List Str) := none
  gn : Str := name
  mth : Option (Str × Str) := none
  pr : Bool := false
theorem sp1 {α : Type} {P : List α → List α → Prop} (h0 : ∀ a, P [] [a]) (h1 : ∀ a, P [a] []) : ∀ us ws : List α, (us ++ ws).length = 1 → P us ws
  | [], [a], _ => h0 a
  | [a], [], _ => h1 a
theorem sp2 {α : Type} {P : List α → List α → Prop} (h0 : ∀ a b, P [] [a, b]) (h1 : ∀ a b, P [a] [b]) (h2 : ∀ a b, P [a, b] []) : ∀ us ws : List α, (us ++ ws).length = 2 → P us ws
  | [], [a, b], _ => h0 a b
  | [a], [b], _ => h1 a b
  | [a, b], [], _ => h2 a b
theorem sp3 {α : Type} {P : List α → List α → Prop} (h0 : ∀ a b c, P [] [a, b, c]) (h1 : ∀ a b c, P [a] [b, c]) (h2 : ∀ a b c, P [a, b] [c]) (h3 : ∀ a b c, P [a, b, c] []) : ∀ us ws : List α, (us ++ ws).length = 3 → P us ws
  | [], [a, b, c], _ => h0 a b c
  | [a], [b, c], _ => h1 a b c
  | [a, b], [c], _ => h2 a b c
  | [a, b, c], [], _ => h3 a b c
theorem sp4 {α : Type} {P : List α → List α → Prop} (h0 : ∀ a b c d, P [] [a, b, c, d]) (h1 : ∀ a b c d, P [a] [b, c, d]) (h2 : ∀ a b c d, P [a, b] [c, d]) (h3 : ∀ a b c d, P [a, b, c] [d]) (h4 : ∀ a b c d, P [a, b, c, d] []) : ∀ us ws : List α, (us ++ ws).length = 4 → P us ws
  | [], [a, b, c, d], _ => h0 a b c d
  | [a], [b, c, d], _ => h1 a b c d
  | [a, b], [c, d], _ => h2 a b c d
  | [a, b, c], [d], _ => h3 a b c d
  | [a, b, c, d], [], _ => h4 a b c d
theorem sp5 {α : Type} {P : List α → List α → Prop} (h0 : ∀ a b c d e, P [] [a, b, c, d, e]) (h1 : ∀ a b c d e, P [a] [b, c, d, e]) (h2 : ∀ a b c d e, P [a, b] [c, d, e]) (h3 : ∀ a b c d e, P [a, b, c] [d, e]) (h4 : ∀ a b c d e, P [a, b, c, d] [e]) (h5 : ∀ a b c d e, P [a, b, c, d, e] []) : ∀ us ws : List α, (us ++ ws).length = 5 → P us ws
  | [], [a, b, c, d, e], _ => h0 a b c d e
  | [a], [b, c, d, e], _ => h1 a b c d e
  | [a, b], [c, d, e], _ => h2 a b c d e
  | [a, b, c], [d, e], _ => h3 a b c d e
  | [a, b, c, d], [e], _ => h4 a b c d e
  | [a, b, c, d, e], [], _ => h5 a b c d e
noncomputable def Bnd (I : FnI) (kV doc pm : Value) (an : Option Addr) (cdv ct : Value) (us ws : List Value) : Prop := bindArgs (PySem.W.fnOf I.name I.qual (defArgs I.st) (defBody I.st) (defScope I.st) .none kV doc pm an cdv ct) ⟨us, (I.P.drop us.length).zip ws⟩ = pure (I.P.zip (us ++ ws))
theorem bnd1 {I : FnI} (hn : I.P.length = 1) (h0 : ∀ kV doc pm an cdv ct a, Bnd I kV doc pm an cdv ct [] [a]) (h1 : ∀ kV doc pm an cdv ct a, Bnd I kV doc pm an cdv ct [a] []) : ∀ (kV doc pm : Value) (an : Option Addr) (cdv ct : Value) (us ws : List Value), (us ++ ws).length = I.P.length → bindArgs (PySem.W.fnOf I.name I.qual (defArgs I.st) (defBody I.st) (defScope I.st) .none kV doc pm an cdv ct) ⟨us, (I.P.drop us.length).zip ws⟩ = pure (I.P.zip (us ++ ws)) :=
  fun kV doc pm an cdv ct us ws hl => sp1 (P := Bnd I kV doc pm an cdv ct) (h0 kV doc pm an cdv ct) (h1 kV doc pm an cdv ct) us ws (hl.trans hn)
theorem bnd2 {I : FnI} (hn : I.P.length = 2) (h0 : ∀ kV doc pm an cdv ct a b, Bnd I kV doc pm an cdv ct [] [a, b]) (h1 : ∀ kV doc pm an cdv ct a b, Bnd I kV doc pm an cdv ct [a] [b]) (h2 : ∀ kV doc pm an cdv ct a b, Bnd I kV doc pm an cdv ct [a, b] []) : ∀ (kV doc pm : Value) (an : Option Addr) (cdv ct : Value) (us ws : List Value), (us ++ ws).length = I.P.length → bindArgs (PySem.W.fnOf I.name I.qual (defArgs I.st) (defBody I.st) (defScope I.st) .none kV doc pm an cdv ct) ⟨us, (I.P.drop us.length).zip ws⟩ = pure (I.P.zip (us ++ ws)) :=
  fun kV doc pm an cdv ct us ws hl => sp2 (P := Bnd I kV doc pm an cdv ct) (h0 kV doc pm an cdv ct) (h1 kV doc pm an cdv ct) (h2 kV doc pm an cdv ct) us ws (hl.trans hn)
theorem bnd3 {I : FnI} (hn : I.P.length = 3) (h0 : ∀ kV doc pm an cdv ct a b c, Bnd I kV doc pm an cdv ct [] [a, b, c]) (h1 : ∀ kV doc pm an cdv ct a b c, Bnd I kV doc pm an cdv ct [a] [b, c]) (h2 : ∀ kV doc pm an cdv ct a b c, Bnd I kV doc pm an cdv ct [a, b] [c]) (h3 : ∀ kV doc pm an cdv ct a b c, Bnd I kV doc pm an cdv ct [a, b, c] []) : ∀ (kV doc pm : Value) (an : Option Addr) (cdv ct : Value) (us ws : List Value), (us ++ ws).length = I.P.length → bindArgs (PySem.W.fnOf I.name I.qual (defArgs I.st) (defBody I.st) (defScope I.st) .none kV doc pm an cdv ct) ⟨us, (I.P.drop us.length).zip ws⟩ = pure (I.P.zip (us ++ ws)) :=
  fun kV doc pm an cdv ct us ws hl => sp3 (P := Bnd I kV doc pm an cdv ct) (h0 kV doc pm an cdv ct) (h1 kV doc pm an cdv ct) (h2 kV doc pm an cdv ct) (h3 kV doc pm an cdv ct) us ws (hl.trans hn)
theorem bnd4 {I : FnI} (hn : I.P.length = 4) (h0 : ∀ kV doc pm an cdv ct a b c d, Bnd I kV doc pm an cdv ct [] [a, b, c, d]) (h1 : ∀ kV doc pm an cdv ct a b c d, Bnd I kV doc pm an cdv ct [a] [b, c, d]) (h2 : ∀ kV doc pm an cdv ct a b c d, Bnd I kV doc pm an cdv ct [a, b] [c, d]) (h3 : ∀ kV doc pm an cdv ct a b c d, Bnd I kV doc pm an cdv ct [a, b, c] [d]) (h4 : ∀ kV doc pm an cdv ct a b c d, Bnd I kV doc pm an cdv ct [a, b, c, d] []) : ∀ (kV doc pm : Value) (an : Option Addr) (cdv ct : Value) (us ws : List Value), (us ++ ws).length = I.P.length → bindArgs (PySem.W.fnOf I.name I.qual (defArgs I.st) (defBody I.st) (defScope I.st) .none kV doc pm an cdv ct) ⟨us, (I.P.drop us.length).zip ws⟩ = pure (I.P.zip (us ++ ws)) :=
  fun kV doc pm an cdv ct us ws hl => sp4 (P := Bnd I kV doc pm an cdv ct) (h0 kV doc pm an cdv ct) (h1 kV doc pm an cdv ct) (h2 kV doc pm an cdv ct) (h3 kV doc pm an cdv ct) (h4 kV doc pm an cdv ct) us ws (hl.trans hn)
theorem bnd5 {I : FnI} (hn : I.P.length = 5) (h0 : ∀ kV doc pm an cdv ct a b c d e, Bnd I kV doc pm an cdv ct [] [a, b, c, d, e]) (h1 : ∀ kV doc pm an cdv ct a b c d e, Bnd I kV doc pm an cdv ct [a] [b, c, d, e]) (h2 : ∀ kV doc pm an cdv ct a b c d e, Bnd I kV doc pm an cdv ct [a, b] [c, d, e]) (h3 : ∀ kV doc pm an cdv ct a b c d e, Bnd I kV doc pm an cdv ct [a, b, c] [d, e]) (h4 : ∀ kV doc pm an cdv ct a b c d e, Bnd I kV doc pm an cdv ct [a, b, c, d] [e]) (h5 : ∀ kV doc pm an cdv ct a b c d e, Bnd I kV doc pm an cdv ct [a, b, c, d, e] []) : ∀ (kV doc pm : Value) (an : Option Addr) (cdv ct : Value) (us ws : List Value), (us ++ ws).length = I.P.length → bindArgs (PySem.W.fnOf I.name I.qual (defArgs I.st) (defBody I.st) (defScope I.st) .none kV doc pm an cdv ct) ⟨us, (I.P.drop us.length).zip ws⟩ = pure (I.P.zip (us ++ ws)) :=
  fun kV doc pm an cdv ct us ws hl => sp5 (P := Bnd I kV doc pm an cdv ct) (h0 kV doc pm an cdv ct) (h1 kV doc pm an cdv ct) (h2 kV doc pm an cdv ct) (h3 kV doc pm an cdv ct) (h4 kV doc pm an cdv ct) (h5 kV doc pm an cdv ct) us ws (hl.trans hn)
structure FnS (D : Ds) (I : FnI) (fn : Fn) : Prop where
  scope : FnScope I.N I.P (defScope I.st)
  chk : chkSs D I.N (defScope I.st) fn.body (defBody I.st) = true
  par : I.P.length = fn.par
  loc : I.N.length = fn.loc
  cls : I.cls = fn.cls
  bnd : ∀ (kV doc pm : Value) (an : Option Addr) (cdv ct : Value) (us ws : List Value), (us ++ ws).length = I.P.length →
    bindArgs (PySem.W.fnOf I.name I.qual (defArgs I.st) (defBody I.st) (defScope I.st) .none kV doc pm an cdv ct) ⟨us, (I.P.drop us.length).zip ws⟩ = pure (I.P.zip (us ++ ws))
  prm : ∀ n qs ns, I.prm = some (n, qs, ns) → ∀ (kV doc pm : Value) (an : Option Addr) (cdv ct : Value) (us ws : List Value), us.length = n → ws.length = ns.length →
    bindArgs (PySem.W.fnOf I.name I.qual (defArgs I.st) (defBody I.st) (defScope I.st) .none kV doc pm an cdv ct) ⟨us, ns.zip ws⟩ = pure (I.P.zip (us ++ pick qs ws))
/-- the tables fit -/
noncomputable def tabOk (D : Ds) (is : List (Nat × FnI)) : Bool :=
  D.fns.all (fun p => match is.lookup p.1 with
    | some I => decide (I.cls = none) && decide (I.mth = none) && decide (I.gn = p.2)
    | none => false) &&
  D.mks.all (fun p => match is.lookup p.1 with
    | some I => decide (I.cls = some p.2) && decide (p.2 ∈ D.cl)
    | none => false) &&
  is.all (fun p => decide (D.pars.lookup p.1 = some p.2.P)) &&
  D.prms.all (fun p => match is.lookup p.1 with
    | some I => decide (I.prm = some p.2)
    | none => false) &&
  D.mts.all (fun p => match is.lookup p.1 with
    | some I => decide (I.cls = none) && decide (I.mth = some p.2) && decide (p.2.1 ∈ D.cl) && !I.pr
    | none => false) &&
  D.prs.all (fun p => match is.lookup p.1 with
    | some I => decide (I.cls = none) && decide (I.mth = some p.2) && decide (p.2.1 ∈ D.cl) && I.pr
    | none => false)
theorem lookup_mem {α : Type} : ∀ {l : List (Nat × α)} {k : Nat} {x : α}, l.lookup k = some x → (k, x) ∈ l
  | [], k, x, h => by simp at h
  | (a, b) :: l, k, x, h => by
    simp only [List.lookup] at h
    cases e : k == a with
    | true =>
      rw [e] at h
      cases h
      rw [eq_of_beq e]
      exact List.mem_cons_self
    | false =>
      rw [e] at h
      exact List.mem_cons_of_mem _ (lookup_mem h)
section
variable {P : Program} {w : World} {K : PySem.W.Frag} {mg : Str → Option Value} {base : Heap}
theorem FnS.kb {D : Ds} {I : FnI} {fn : Fn} (S : FnS D I fn) {fa : Addr} {fd : FuncData} (F : Fun K I.name I.qual I.st fa fd) : KB K fd I.P := by
  obtain ⟨oc, od, kV, doc, pm, an, cdv, ct, osl, rfl, lk, hcd⟩ := F.ex
  intro s us ws _ hl
  exact BindsTo.of_eq (S.bnd kV doc pm an cdv ct us ws hl)
theorem FnS.kp {D : Ds} {I : FnI} {fn : Fn} (S : FnS D I fn) {fa : Addr} {fd : FuncData} (F : Fun K I.name I.qual I.st fa fd) {n : Nat} {qs : List Nat} {ns : List Str} (h : I.prm = some (n, qs, ns)) : KP K fd I.P n qs ns := by
  obtain ⟨oc, od, kV, doc, pm, an, cdv, ct, osl, rfl, lk, hcd⟩ := F.ex
  intro s us ws _ hl hl2
  exact BindsTo.of_eq (S.prm n qs ns h kV doc pm an cdv ct us ws hl hl2)
inductive AllS (D : Ds) (fs : Nat → Option Fn) : List (Nat × FnI) → Prop
  | nil : AllS D fs []
  | cons {f : Nat} {I : FnI} {fn : Fn} {is : List (Nat × FnI)} : fs f = some fn → FnS D I fn → AllS D fs is → AllS D fs ((f, I) :: is)
theorem AllS.get {D : Ds} {fs : Nat → Option Fn} : ∀ {is : List (Nat × FnI)}, AllS D fs is → ∀ (f : Nat) I, is.lookup f = some I → ∃ fn, fs f = some fn ∧ FnS D I fn
  | _, .nil, f, I, h => by simp at h
  | _, .cons (f := g) e a b, f, I, h => by
    simp only [List.lookup] at h
    cases z : f == g with
    | true =>
      rw [z] at h
      cases h
      rw [eq_of_beq z]
      exact ⟨_, e, a⟩
    | false =>
      rw [z] at h
      exact b.get f I h
structure Dyn (K : PySem.W.Frag) (mg : Str → Option Value) (is : List (Nat × FnI)) (D : Ds) (gc : Nat → Option Tr) : Prop where
  fns : ∀ (f : Nat) I, is.lookup f = some I → ∃ (fa : Addr) (fd : FuncData), Fun K I.name I.qual I.st fa fd ∧ (I.cls = none → I.mth = none → mg I.gn = some (.ref fa)) ∧ (∀ c, I.cls = some c → ∃ C, mg c = some (.ref C) ∧ Mk K C fa) ∧ ∀ c m, I.mth = some (c, m) → ∃ C, mg c = some (.ref C) ∧ (I.pr = false → Meth K C m fa) ∧ (I.pr = true → ∃ p, PropOf K C m p fa)
  gl : ∀ (k : Nat) t x, gc k = some t → D.gls.lookup k = some x → ∃ v u, mg x = some u ∧ RelV v u ∧ ∀ P w, Rp ⟨P, w, K, mg, D.cl⟩ (fun _ => none) [] t v
  cls : ∀ c ∈ D.cl, ∃ C, mg c = some (.ref C) ∧ ClsF K D.fl C
  kit2 : ∀ c ∈ D.cl, ∀ c' ∈ D.cl, ∀ C C', mg c = some (.ref C) → mg c' = some (.ref C') → PySem.W.kitOne K (.ref C') (.ref C) = some (decide (c' = c))
  blt : ∀ x ∈ D.blts, mg x = none
theorem Rel.begin {K : Mx} {F G H : Hp} {θ : List Addr} {m : List Ob} {ts : List Tr} {vs : List V} {N : List Str} {n : Nat} (M : RelM K F G θ m H) (r : Rps K F θ ts vs) (hn : N.length = n) :
    Rel K F G θ ⟨ts.map Slot.val ++ List.replicate (n - ts.length) Slot.none, m⟩ (L2.start N vs) H := by
  have hl := r.length
  refine ⟨M, ?_, fun i x e => ?_, fun i j l l' a e1 => ?_⟩
  · unfold L2.start
    simp [hl, hn]
  · have e' : (ts.map Slot.val ++ List.replicate (n - ts.length) Slot.none)[i]? = some x := e
    by_cases hi : i < ts.length
    · rw [List.getElem?_append_left (by simpa using hi), List.getElem?_map] at e'
      cases e2 : ts[i]? with
      | none => rw [e2] at e'; cases e'
      | some t =>
        rw [e2] at e'
        cases e'
        obtain ⟨v, h1, h2⟩ := r.get e2
        refine ⟨v, ?_, h2⟩
        unfold L2.start
        rw [List.getElem?_append_left (by simp; omega), List.getElem?_map, h1]
        rfl
    · rw [List.getElem?_append_right (by simpa using hi), List.getElem?_replicate] at e'
      split at e'
      · cases e'; exact trivial
      · cases e'
  · have e' : (ts.map Slot.val ++ List.replicate (n - ts.length) Slot.none)[i]? = some (.own l) := e1
    by_cases hi : i < ts.length
    · rw [List.getElem?_append_left (by simpa using hi), List.getElem?_map] at e'
      cases e2 : ts[i]? with
      | none => rw [e2] at e'; cases e'
      | some t => rw [e2] at e'; cases e'
    · rw [List.getElem?_append_right (by simpa using hi), List.getElem?_replicate] at e'
      split at e' <;> cases e'
/-- an object that stands is shared -/
theorem RelM.adopt {K : Mx} {F G H : Hp} {θ : List Addr} {m : List Ob} {p : Addr} {l : Ob} {o : HO} (R : RelM K F G θ m H) (h : H p = some o) (f : F p = none) (g : G p = none) (t : p ∉ θ) (r : RpB K F θ p l o) : RelM K F G (θ ++ [p]) (m ++ [l]) H := by
  have pre : θ <+: θ ++ [p] := List.prefix_append _ _
  refine ⟨R.fle, R.gle, R.fg, by rw [List.length_append, List.length_append, R.len]; rfl, ?_, fun a u e hm => ?_, fun a hm => ?_, fun k u e hu => ?_⟩
  · rw [List.nodup_append]
    exact ⟨R.nd, by simp, fun a ha b hb => by simp at hb; subst hb; exact fun z => t (z ▸ ha)⟩
  · rcases List.mem_append.mp hm with z | z
    · exact R.gt a u e z
    · simp at z
      subst z
      rw [g] at e
      cases e
  · rcases List.mem_append.mp hm with z | z
    · exact R.al a z
    · simp at z
      subst z
      exact ⟨_, h⟩
  · by_cases hk : k < m.length
    · rw [List.getElem?_append_left hk] at e
      obtain ⟨a, h1, h2, h3, zs, q, rz⟩ := R.ob k u e hu
      exact ⟨a, pre_get pre h1, h2, h3, zs, q, rz.mono (FLe.refl _) pre⟩
    · rw [List.getElem?_append_right (by omega)] at e
      have e0 : k - m.length = 0 := by
        rcases Nat.eq_zero_or_pos (k - m.length) with z | z
        · exact z
        · rw [List.getElem?_eq_none (by simp; omega)] at e; cases e
      rw [e0] at e
      cases e
      have ek : k = θ.length := by rw [← R.len]; omega
      subst ek
      exact ⟨p, by simp, f, g, o, h, r.mono (FLe.refl _) pre⟩
theorem funs {D : Ds} {gc : Nat → Option Tr} {wf : Nat} {fs : Nat → Option Fn} {is : List (Nat × FnI)} (hT : tabOk D is = true) (S : AllS D fs is) (dyn : Dyn K mg is D gc) :
    ∀ (d f : Nat) I fa fd, is.lookup f = some I → Fun K I.name I.qual I.st fa fd → (I.cls = none → FnG P w K mg base (2 * d) fa fd I.P (SpE ⟨P, w, K, mg, D.cl⟩ (callF gc wf fs d) f I.P.length)) ∧
      ∀ c, I.cls = some c → FnG P w K mg base (2 * (d - 1)) fa fd I.P (SpI ⟨P, w, K, mg, D.cl⟩ (callF gc wf fs d) f I.P.length c) := fun d => by
  refine Nat.strongRecOn d fun d IH f I fa fd hI hF => ?_
  cases d with
  | zero => exact ⟨fun _ => ⟨fun vs H Q E h => h.1, fun A outer s H args us vs Q E _ _ _ _ _ h => by
      obtain ⟨_, F, G, θ, ts, m, t, m', _, _, e, _⟩ := h
      simp only [callF] at e
      cases e⟩, fun c _ => ⟨fun vs H Q E h => h.1, fun A outer s H args us vs Q E _ _ _ _ _ h => by
      obtain ⟨_, F, G, θ, ts, m, t, m', x, us, C, dx, _, _, _, _, _, _, _, _, _, e, _⟩ := h
      simp only [callF] at e
      cases e⟩⟩
  | succ d =>
    obtain ⟨fn, hfn, hS⟩ := S.get f I hI
    have hT' := hT
    unfold tabOk at hT'
    simp only [Bool.and_eq_true] at hT'
    obtain ⟨⟨⟨⟨⟨t1, t2⟩, t3⟩, t4⟩, t5⟩, t6⟩ := hT'
    have pars : ∀ (g : Nat) J, is.lookup g = some J → D.pars.lookup g = some J.P := fun g J e => of_decide_eq_true (List.all_eq_true.mp t3 (g, J) (lookup_mem e))
    have ctx : ∀ {d : Nat} (fns : ∀ (e f : Nat) I fa fd, e ≤ d → is.lookup f = some I → Fun K I.name I.qual I.st fa fd → (I.cls = none → FnG P w K mg base (2 * e) fa fd I.P (SpE ⟨P, w, K, mg, D.cl⟩ (callF gc wf fs e) f I.P.length)) ∧
      ∀ c, I.cls = some c → FnG P w K mg base (2 * (e - 1)) fa fd I.P (SpI ⟨P, w, K, mg, D.cl⟩ (callF gc wf fs e) f I.P.length c)) {cdv : Value} {A : Around} {outer : List Env} {s : Shared} {H : Hp} {E : XK}, Room (2 * d + 1) (A.deeper (envOfC I.qual (defScope I.st) s.heap.objs.size fa cdv)) → A.guards = some [] → Cxt D gc (callF gc wf fs d) (cxOf CX0 P w K mg base I.N I.qual (defScope I.st) fa cdv A outer s H E).nox (defScope I.st) := by
      intro d fns cdv A outer s H E hr hgd
      refine ⟨hS.scope.nd, rfl, hgd, rfl, fun x h => visB_ok h, fun x h => ⟨locB_ok h, .inl rfl⟩, fun x h => ?_, fun sc own h => blkOk_by h, fun k t x e1 e2 => ?_, dyn.cls, dyn.kit2, fun g x hg ts m r hr' => ?_, dyn.blt, ?_, fun g x hg ts m r hr' => ?_, fun g x y hg ts m r hr' => ?_, fun g x y hg ts m r hr' => ?_, fun g x n qs ns hg hn ts m r hr' => ?_⟩
      · unfold glB at h
        split at h
        · assumption
        · cases h
      · obtain ⟨v, u, g1, g2, g3⟩ := dyn.gl k t x e1 e2
        exact ⟨v, u, g1, g2, g3 _ _⟩
      · have q := List.all_eq_true.mp t2 (g, x) (lookup_mem hg)
        cases e : is.lookup g with
        | none => simp only [e] at q; cases q
        | some J =>
          simp only [e, Bool.and_eq_true, decide_eq_true_eq] at q
          obtain ⟨ga, gd, h1, _, h3, _⟩ := dyn.fns g J e
          obtain ⟨gn, hgn, hSg⟩ := S.get g J e
          obtain ⟨C0, h4, h5⟩ := h3 x q.1
          cases d with
          | zero => simp only [callF] at hr'; cases hr'
          | succ d =>
            refine ⟨C0, ga, gd, J.P, 2 * (d + 1 - 1), q.2, h4, h5, hSg.kb h1, hr.mono (by omega), (fns (d + 1) g J ga gd (Nat.le_refl _) e h1).2 x q.1, ?_⟩
            simp only [callF, hgn, ← hSg.cls, q.1] at hr'
            cases d with
            | zero => cases hr'
            | succ d =>
              simp only at hr'
              split at hr'
              · rename_i hh; rw [hh, hSg.par]
              · cases hr'
      · have := hr.un
        show (A.deeper (envOfC I.qual (defScope I.st) s.heap.objs.size fa cdv)).units + 200 < cLine
        omega
      · have q := List.all_eq_true.mp t1 (g, x) (lookup_mem hg)
        cases e : is.lookup g with
        | none => simp only [e] at q; cases q
        | some J =>
          simp only [e, Bool.and_eq_true, decide_eq_true_eq] at q
          obtain ⟨ga, gd, h1, h2, _⟩ := dyn.fns g J e
          obtain ⟨gn, hgn, hSg⟩ := S.get g J e
          have h2 := h2 q.1.1 q.1.2
          rw [q.2] at h2
          refine ⟨ga, gd, J.P, 2 * d, pars g J e, h2, h1.kp, hSg.kb h1, hr.mono (by omega), (fns d g J ga gd (Nat.le_refl _) e h1).1 q.1.1, ?_⟩
          cases d with
          | zero => simp only [callF] at hr'; cases hr'
          | succ d =>
            simp only [callF, hgn, ← hSg.cls, q.1.1] at hr'
            split at hr'
            · rename_i hh; rw [hh, hSg.par]
            · cases hr'
      · have q := List.all_eq_true.mp t5 (g, x, y) (lookup_mem hg)
        cases e : is.lookup g with
        | none => simp only [e] at q; cases q
        | some J =>
          simp only [e, Bool.and_eq_true, decide_eq_true_eq] at q
          obtain ⟨ga, gd, h1, _, _, h3⟩ := dyn.fns g J e
          obtain ⟨gn, hgn, hSg⟩ := S.get g J e
          obtain ⟨C0, h4, h5, _⟩ := h3 x y q.1.1.2
          refine ⟨C0, ga, gd, J.P, 2 * d, q.1.2, h4, h5 (by simpa using q.2), hSg.kb h1, hr.mono (by omega), (fns d g J ga gd (Nat.le_refl _) e h1).1 q.1.1.1, ?_⟩
          cases d with
          | zero => simp only [callF] at hr'; cases hr'
          | succ d =>
            simp only [callF, hgn, ← hSg.cls, q.1.1.1] at hr'
            split at hr'
            · rename_i hh; rw [hh, hSg.par]
            · cases hr'
      · have q := List.all_eq_true.mp t6 (g, x, y) (lookup_mem hg)
        cases e : is.lookup g with
        | none => simp only [e] at q; cases q
        | some J =>
          simp only [e, Bool.and_eq_true, decide_eq_true_eq] at q
          obtain ⟨ga, gd, h1, _, _, h3⟩ := dyn.fns g J e
          obtain ⟨gn, hgn, hSg⟩ := S.get g J e
          obtain ⟨C0, h4, _, h5⟩ := h3 x y q.1.1.2
          obtain ⟨p0, h5⟩ := h5 q.2
          refine ⟨C0, p0, ga, gd, J.P, 2 * d, q.1.2, h4, h5, hSg.kb h1, hr, (fns d g J ga gd (Nat.le_refl _) e h1).1 q.1.1.1, ?_⟩
          cases d with
          | zero => simp only [callF] at hr'; cases hr'
          | succ d =>
            simp only [callF, hgn, ← hSg.cls, q.1.1.1] at hr'
            split at hr'
            · rename_i hh; rw [hh, hSg.par]
            · cases hr'
      · have q := List.all_eq_true.mp t1 (g, x) (lookup_mem hg)
        have q4 := List.all_eq_true.mp t4 _ (lookup_mem hn)
        cases e : is.lookup g with
        | none => simp only [e] at q; cases q
        | some J =>
          simp only [e, Bool.and_eq_true, decide_eq_true_eq] at q q4
          obtain ⟨ga, gd, h1, h2, _⟩ := dyn.fns g J e
          obtain ⟨gn, hgn, hSg⟩ := S.get g J e
          have h2 := h2 q.1.1 q.1.2
          rw [q.2] at h2
          refine ⟨ga, gd, J.P, 2 * d, pars g J e, h2, h1.kp, hSg.kp h1 q4, hr.mono (by omega), (fns d g J ga gd (Nat.le_refl _) e h1).1 q.1.1, ?_⟩
          cases d with
          | zero => simp only [callF] at hr'; cases hr'
          | succ d =>
            simp only [callF, hgn, ← hSg.cls, q.1.1] at hr'
            split at hr'
            · rename_i hh; rw [hh, hSg.par]
            · cases hr'
    have vac : d = 0 → ∀ c, I.cls = some c → FnG P w K mg base (2 * (d + 1 - 1)) fa fd I.P (SpI ⟨P, w, K, mg, D.cl⟩ (callF gc wf fs (d + 1)) f I.P.length c) := fun hd c hc => by
      subst hd
      refine ⟨fun vs H Q E h => h.1, fun A outer s H args us vs Q E _ _ _ _ _ h => ?_⟩
      obtain ⟨_, F, G, θ, ts, m, t, m', x, us, C, dx, _, _, _, _, _, _, _, _, _, e, _⟩ := h
      simp only [callF, hfn, ← hS.cls, hc] at e
      cases e
    refine ⟨fun hc => ?_, fun c hc => ?_⟩
    · rw [show 2 * (d + 1) = (2 * d + 1) + 1 by omega]
      refine fnG hF hS.scope (fun vs H Q E h => h.1) fun cdv A outer s H vs Q E hr hgd hsp => ?_
      refine ⟨_, sSs (wf := wf) (ctx (fun e f I fa fd _ h1 h2 => IH e (by omega) f I fa fd h1 h2) hr hgd) rfl hS.scope.kind _ _ hS.chk, ?_⟩
      obtain ⟨hl, F, G, θ, ts, m, t, m', M, rr, ev, k⟩ := hsp
      simp only [callF, hfn, ← hS.cls, hc] at ev
      split at ev
      · generalize hx : exSs gc (callF gc wf fs d) wf fn.body _ = rs at ev
        cases rs with
        | no => cases ev
        | ok fl s' =>
          cases fl with
          | next =>
            cases ev
            refine ⟨F, G, θ, _, .next, s', Rel.begin M rr hS.loc, hx, fun σ' H' F' θ' R l p => ?_⟩
            exact k .non H' F' θ' R.m l p .non
          | ret t' =>
            cases ev
            refine ⟨F, G, θ, _, .ret t, s', Rel.begin M rr hS.loc, hx, fun v σ' H' F' θ' R l p r => ?_⟩
            exact k v H' F' θ' R.m l p r
          | brk => cases ev
          | cont => cases ev
      · cases ev
    · cases d with
      | zero => exact vac rfl c hc
      | succ d =>
      rw [show 2 * (d + 1 + 1 - 1) = (2 * d + 1) + 1 by omega]
      refine fnG hF hS.scope (fun vs H Q E h => h.1) fun cdv A outer s H vs Q E hr hgd hsp => ?_
      refine ⟨_, sSs (wf := wf) (ctx (d := d) (fun e f I fa fd _ h1 h2 => IH e (by omega) f I fa fd h1 h2) hr hgd) rfl hS.scope.kind _ _ hS.chk, ?_⟩
      obtain ⟨hl, F, G, θ, ts, m, t, m', x, us, C0, dx, rfl, hcl, hmg, hx0, hFx, hGx, hθx, M, rr, ev, k⟩ := hsp
      simp only [callF, hfn, ← hS.cls, hc] at ev
      split at ev
      · rename_i hlen
        generalize hx : exSs gc (callF gc wf fs d) wf fn.body _ = rs at ev
        have M2 := M.adopt (l := .ins c [] []) hx0 hFx hGx hθx ⟨C0, dx, [], rfl, hcl, hmg, rfl, .nil⟩
        have rr2 : Rps (⟨P, w, K, mg, D.cl⟩ : Mx) F (θ ++ [x]) (.ob m.length :: ts) (.ref x :: us) := .cons (.ob (by rw [M.len]; simp)) (rr.mono (FLe.refl _) (List.prefix_append _ _))
        have RB := Rel.begin (N := I.N) M2 rr2 hS.loc
        by_cases hkeep : fn.keep = true
        · rw [if_pos hkeep] at ev
          cases rs with
          | no => cases ev
          | ok fl s' =>
            cases fl with
            | next =>
              refine ⟨F, G, θ ++ [x], _, .next, s', RB, hx, fun σ' H' F' θ' R l p => ?_⟩
              simp only [doneK] at ev
              split at ev
              · cases ev
                have ex : θ'[m.length]? = some x := pre_get p (by rw [M.len]; simp)
                exact k H' F' θ' R.m l ((List.prefix_append _ _).trans p) (.ob ex)
              · cases ev
            | ret t' => cases ev
            | brk => cases ev
            | cont => cases ev
        · rw [if_neg hkeep] at ev
          cases rs with
          | no => cases ev
          | ok fl s' =>
            cases fl with
            | next =>
              refine ⟨F, G, θ ++ [x], _, .next, s', RB, hx, fun σ' H' F' θ' R l p => ?_⟩
              simp only [doneC] at ev
              split at ev
              · rename_i c' ns ll em
                cases ev
                obtain ⟨a, q1, q2, q3, ho, q4, q5⟩ := R.m.ob m.length _ em (fun z => nomatch z)
                have ex : θ'[m.length]? = some x := pre_get p (by rw [M.len]; simp)
                rw [ex] at q1
                cases q1
                have R2 := R.memGone em (fun z => nomatch z) ex q4
                have f' : F' x = none := q2
                exact k H' _ θ' R2.m (l.trans (FLe.upd1 f')) ((List.prefix_append _ _).trans p) ((q5.mono (FLe.upd1 f') (List.prefix_refl _)).rp upd_same)
              · cases ev
            | ret t' => cases ev
            | brk => cases ev
            | cont => cases ev
      · cases ev
/-- what is asked of a law at its script -/
theorem spe_law {K : Mx} {cf : CF} {f : Nat} {H : Hp} {a : Addr} {ns : List Int} {m' : List Ob} {E : XK} (h : SqL K H a (ns.map V.int)) (e : cf f [.flst (ns.map .int)] [] = some (.bl true, m')) :
    SpE K cf f 1 [.ref a] H (fun v _ => v = .bl true) E := by
  have intsR : ∀ (ns : List Int), Rps K H [] (ns.map Tr.int) (ns.map V.int) := by
    intro ns
    induction ns with
    | nil => exact .nil
    | cons n ns ih => exact .cons (.int n) ih
  refine ⟨rfl, H, fun _ => none, [], _, [], _, m', ⟨FLe.refl H, fun a o z => (nomatch z), fun a o z => (nomatch z), rfl, List.nodup_nil, fun a o z => (nomatch z), fun a z => (nomatch z), fun n o z => ?_⟩, .cons (.flst h (intsR ns)) .nil, e, fun v H' F' θ' _ _ _ r => ?_⟩
  · simp at z
  · cases r; rfl
end
/-- THE HEAD, where no repr is under way -/
theorem law_callG {P : Program} {w : World} {K : PySem.W.Frag} {mg mb : Str → Option Value} {k : Nat} {fa a : Addr} {fd : FuncData} {x : Str} {sp : Sp} {s₁ : Shared} {vs : List Value} {ns : List Int}
    (KX : K.In s₁.heap) (hns : s₁.heap.Ns mainGlobals mg) (hb : s₁.heap.Ns builtinsNs mb) (hbb : ∀ x : Str, x ≠ "__name__" → mb x = bootBuiltins x) (hlim : s₁.heap.NoLimit) (hg : s₁.gens = #[])
    (ha : s₁.heap.get? a = some { cls := .type "list", data := .seq vs.toArray }) (hi : IntsAre vs ns) (hl : ns.length ≤ sizeLine) (hr : Room k callerA)
    (F : ∀ base : Heap, K.In base → base.Ns mainGlobals mg → FnG P w K mg base k fa fd [x] sp) (hbind : ∀ (s : Shared) (u : Value), BindsTo s fd ⟨[u], []⟩ [(x, u)])
    (hsp : ∀ H : Hp, Only H → SqL K H a (ns.map V.int) → sp [.ref a] H (fun v _ => v = .bl true) fun _ _ _ => False) :
    codeAny (model P w) callerA (.call (.ref fa) ⟨[.ref a], []⟩) (fun r s' => r = .ok (.ret (.bool true)) ∧ OldK s₁.heap s'.heap ∧ s'.os = s₁.os ∧ AllBare s'.gens) s₁ := by
  have rv := vals_ints hi
  have lenV := hi.length
  have core : ∀ H : Hp, Only H → SqL K H a (ns.map V.int) → HOk P w H s₁.heap → (∀ b, H b ≠ none → b = a) → (H a ≠ none → K.lookup a = none) →
      codeAny (model P w) callerA (.call (.ref fa) ⟨[.ref a], []⟩) (fun r s' => r = .ok (.ret (.bool true)) ∧ OldK s₁.heap s'.heap ∧ s'.os = s₁.os ∧ AllBare s'.gens) s₁ := by
    intro H hO hS hok hA hK
    have base_of : ∀ {b : Addr} {o : Obj}, s₁.heap.get? b = some o → H b = none → (hidT s₁.heap H).get? b = some o := fun e n => hidT_get e n
    have noA : ∀ {b : Addr} {o : Obj} {es : Array DictEntry} {ep : Nat}, s₁.heap.get? b = some o → o.data = .dict es ep → H b = none := fun {b o es ep} e d => by
      cases q : H b with
      | none => rfl
      | some u =>
        have e' : b = a := hA b (by rw [q]; simp)
        subst e'
        rw [ha] at e; cases e
        have d' : Data.seq vs.toArray _ = Data.dict es ep := d
        cases d'
    have nsK : ∀ {b : Addr} {m : Str → Option Value}, s₁.heap.Ns b m → (hidT s₁.heap H).Ns b m := fun {b m} ⟨o, es, ep, e, d, r⟩ => ⟨o, es, ep, base_of e (noA e d), d, r⟩
    have hKb : K.In (hidT s₁.heap H) := fun b o e => base_of (KX b o e) (by
      cases q : H b with
      | none => rfl
      | some u =>
        have e' : b = a := hA b (by rw [q]; simp)
        subst e'
        rw [hK (by rw [q]; simp)] at e; cases e)
    have hM : Mod K mg (hidT s₁.heap H) := ⟨hKb, nsK hns, ⟨mb, nsK hb, hbb⟩, let ⟨mc, h1, h2⟩ := hlim; ⟨mc, nsK h1, h2⟩⟩
    have e0 : Env0 P w K mg (hidT s₁.heap H) callerA [] s₁ H := ⟨rfl, hM, fun b o e => of_hidT e, Nat.le_of_eq (hidT_size _ _), trivial, fun b hb => absurd (show b ∈ ([] : List Addr) from hb) (by simp), hok, .of_eq hg⟩
    refine codeAny_mono ((F _ hKb (nsK hns)).run callerA [] s₁ H ⟨[.ref a], []⟩ [.ref a] [.ref a] _ _ hr rfl e0 (hbind s₁ (.ref a)) (.cons rfl .nil) (hsp H hO hS)) fun r s' h => ?_
    cases r with
    | error e => exact False.elim h
    | ok fl =>
      cases fl with
      | next => exact False.elim h
      | brk => exact False.elim h
      | cont => exact False.elim h
      | ret u =>
        obtain ⟨v, H', os, bare, un, hok', r', q⟩ := h
        have q' : v = .bl true := q
        subst q'
        obtain rfl : u = Value.bool true := r'
        refine ⟨rfl, OldK.of_keep fun b o e => ?_, os, bare⟩
        cases q : H b with
        | none => exact un.keep b o e q (by intro z; exact absurd (show b ∈ ([] : List Addr) from z) (by simp)) (by simp)
        | some u =>
          rcases hO b with z | ⟨ob, xs, z⟩
          · rw [q] at z; cases z
          · have z2 := un.frzs b ob _ z
            obtain ⟨e1, _⟩ := hok b _ z
            obtain ⟨e2, _⟩ := hok' b _ z2
            rw [e] at e1; cases e1
            exact e2
  cases hk : K.lookup a with
  | some o =>
    have e := KX a o hk
    rw [ha] at e
    cases e
    refine core (fun _ => none) (fun _ => .inl rfl) (.inr ⟨_, vs.toArray, _, hk, rfl, rfl, rfl, by rw [List.size_toArray, lenV]; exact hl, by simpa using rv⟩) (fun b u z => by have z' : (none : Option HO) = some u := z; cases z') (fun b z => absurd rfl z) fun z => absurd rfl z
  | none =>
    refine core (fun b => if b = a then some (.frz { cls := .type "list", data := .seq vs.toArray } (.lst (ns.map V.int))) else none) (fun b => ?_) (.inl (.inr ⟨{ cls := .type "list", data := .seq vs.toArray }, if_pos rfl⟩)) (fun b u z => ?_) (fun b z => ?_) fun _ => hk
    · by_cases hb : b = a
      · exact .inr ⟨_, _, if_pos hb⟩
      · exact .inl (if_neg hb)
    · by_cases hb : b = a
      · have z' := (if_pos hb).symm.trans z
        cases z'
        subst hb
        exact ⟨ha, by rw [List.length_map]; exact hl, vs, _, rv, ha⟩
      · have z' := (if_neg hb).symm.trans z
        cases z'
    · by_cases hb : b = a
      · exact hb
      · exact absurd (if_neg hb) z
/-- the goal that k_head leaves (case hc) -/
theorem walk_G {l : PySem.W.OpenLaw} {n d0 wf li : Nat} {q : Program} {loose : List Str} {XP : (Str → Option Value) → Heap → Prop} {YP : World → Heap → Prop} {d : DefRec} {K : Params → PySem.W.Frag} {x : Str} {D : Ds} {gc : Nat → Option Tr} {fs : Nat → Option Fn} {is : List (Nat × FnI)} {I : FnI}
    (hn : l.most = some n) (hn2 : n ≤ sizeLine) (hdf : d.params.defaults = []) (hr : Room (2 * d0) callerA)
    (hY : ∀ (w : World) (h : Heap), YP w h → (K w.params).In h)
    (hT : tabOk D is = true) (S : AllS D fs is)
    (hI : is.lookup li = some I) (hcl : I.cls = none ∧ I.mth = none) (hnm : d.name = I.gn) (hP : I.P = [x])
    (dyn : ∀ (w : World) (mg : Str → Option Value) (h : Heap), (K w.params).In h → h.Ns mainGlobals mg → Dyn (K w.params) mg is D gc)
    (hlaw : ∀ ns : List Int, ns.length ≤ n → ∃ m', callF gc wf fs d0 li [.flst (ns.map .int)] [] = some (.bl true, m')) :
    PySem.W.WalkO q loose XP YP l.row.toRowW d [] (fun f vs => PySem.call f vs) := by
  refine Att.attach_call hn hdf fun w s₀ s₁ mg mb fa o pm cd doc a vs ns G Y ho hd hcd hmg hobj hints hlen' hg => ?_
  have KX := hY w _ Y
  have dy := dyn w mg _ KX G.T.g
  obtain ⟨fa', fd, h2, h1, _⟩ := dy.fns li I hI
  have h1 := h1 hcl.1 hcl.2
  rw [← hnm, hmg] at h1
  cases h1
  obtain ⟨fn, hfn, hSl⟩ := S.get li I hI
  obtain ⟨m', e⟩ := hlaw ns hlen'
  have hkb := hSl.kb h2
  refine law_callG (fd := fd) (x := x) KX G.T.g G.T.b G.T.builtins G.T.nolimit hg hobj hints (Nat.le_trans hlen' hn2) hr (fun base hb hns => ?_) (fun s u => ?_) (fun H hO hS => spe_law (K := ⟨l.prog, w, K w.params, mg, D.cl⟩) (f := li) hS e)
  · have z := (funs (P := l.prog) (w := w) (base := base) (wf := wf) hT S dy d0 li I fa fd hI h2).1 hcl.1
    rw [hP] at z
    exact z
  · obtain ⟨oc, od, kV, doc', pm', an, cdv, ct, osl, rfl, lk, hcd⟩ := h2.ex
    have z := BindsTo.of_eq (s := s) (hSl.bnd kV doc' pm' an cdv ct [u] [] (by rw [hP]; rfl))
    rw [hP] at z
    exact z
end Ev
/-! What the top has written: constants, functions. -/
namespace Ev
open PySem PySem.Spec L2
open PyProof.Rows hiding St
mutual
noncomputable def okV (K : PySem.W.Frag) : Tr → Value → Bool
  | .non, u => match u with
    | .none => true
    | _ => false
  | .bl b, u => match u with
    | .bool c => b == c
    | _ => false
  | .int i, u => match u with
    | .int j _ => decide (i = j)
    | _ => false
  | .str z, u => match u with
    | .str y _ => decide (z = y)
    | _ => false
  | .tup l, u => match u with
    | .ref a => (match K.lookup a with
      | some ⟨.type c, _, .seq its _, _⟩ => decide (c = "tuple") && decide (its.size ≤ sizeLine) && okVs K l its.toList
      | _ => false)
    | _ => false
  | _, _ => false
noncomputable def okVs (K : PySem.W.Frag) : List Tr → List Value → Bool
  | [], us => match us with
    | [] => true
    | _ => false
  | t :: l, us => match us with
    | u :: us => okV K t u && okVs K l us
    | _ => false
end
mutual
theorem okV_ok {K : PySem.W.Frag} : ∀ (t : Tr) (u : Value), okV K t u = true → ∃ v, RelV v u ∧ ∀ (M : Mx) (F : Hp) (θ : List Addr), M.K = K → Rp M F θ t v
  | .non, u, h => by
    simp only [okV] at h
    split at h
    · exact ⟨.non, rfl, fun _ _ _ _ => .non⟩
    · cases h
  | .bl b, u, h => by
    simp only [okV] at h
    split at h
    · obtain rfl := eq_of_beq h
      exact ⟨.bl b, rfl, fun _ _ _ _ => .bl b⟩
    · cases h
  | .int i, u, h => by
    simp only [okV] at h
    split at h
    · obtain rfl := of_decide_eq_true h
      exact ⟨.int i, ⟨_, rfl⟩, fun _ _ _ _ => .int i⟩
    · cases h
  | .str z, u, h => by
    simp only [okV] at h
    split at h
    · obtain rfl := of_decide_eq_true h
      exact ⟨.str z, ⟨_, rfl⟩, fun _ _ _ _ => .str z⟩
    · cases h
  | .tup l, u, h => by
    simp only [okV] at h
    split at h
    · split at h
      · rename_i a x0 c d its n sl e
        obtain ⟨h1, h2⟩ := and2 h
        obtain ⟨h1, h3⟩ := and2 h1
        obtain rfl := of_decide_eq_true h1
        obtain ⟨vs, q1, q2⟩ := okVs_ok l its.toList h2
        exact ⟨.ref a, rfl, fun M F θ hM => .tup (.inr ⟨_, its, n, by rw [hM]; exact e, rfl, rfl, of_decide_eq_true h3, q1⟩) (q2 M F θ hM)⟩
      · cases h
    · cases h
  | .lst l, u, h => by simp only [okV] at h; cases h
  | .dk _ _, u, h => by simp only [okV] at h; cases h
  | .dt _ _, u, h => by simp only [okV] at h; cases h
  | .dn _ _, u, h => by simp only [okV] at h; cases h
  | .ins _ _ _, u, h => by simp only [okV] at h; cases h
  | .flst l, u, h => by simp only [okV] at h; cases h
  | .ob n, u, h => by simp only [okV] at h; cases h
  | .bor n, u, h => by simp only [okV] at h; cases h
theorem okVs_ok {K : PySem.W.Frag} : ∀ (l : List Tr) (us : List Value), okVs K l us = true → ∃ vs, Vals vs us ∧ ∀ (M : Mx) (F : Hp) (θ : List Addr), M.K = K → Rps M F θ l vs
  | [], us, h => by
    simp only [okVs] at h
    split at h
    · exact ⟨[], .nil, fun _ _ _ _ => .nil⟩
    · cases h
  | t :: l, us, h => by
    cases us with
    | nil => simp only [okVs] at h; cases h
    | cons u us =>
      simp only [okVs] at h
      obtain ⟨h1, h2⟩ := and2 h
      obtain ⟨v, q1, q2⟩ := okV_ok t u h1
      obtain ⟨vs, q3, q4⟩ := okVs_ok l us h2
      exact ⟨v :: vs, .cons q1 q3, fun M F θ hM => .cons (q2 M F θ hM) (q4 M F θ hM)⟩
end
/-- a def as the top has written it; an __init__ of a class -/
structure FK (K : PySem.W.Frag) (I : FnI) : Prop where
  ex : ∃ (f : Addr) (fd : FuncData), Fun K I.name I.qual I.st f fd ∧ (I.cls = none → I.mth = none → PySem.W.nsIn K mainGlobals I.gn = some (some (.ref f))) ∧ (∀ c, I.cls = some c → ∃ C, PySem.W.nsIn K mainGlobals c = some (some (.ref C)) ∧ Mk K C f) ∧ ∀ c m, I.mth = some (c, m) → ∃ C, PySem.W.nsIn K mainGlobals c = some (some (.ref C)) ∧ (I.pr = false → Meth K C m f) ∧ (I.pr = true → ∃ p, PropOf K C m p f)
theorem fk {K : PySem.W.Frag} {I : FnI} {f : Addr} {oc : Value} {od an : Option Addr} {osl : Array (Option Value)} {kV doc pm cdv ct : Value} {x : Str} {st : Stmt} (e : I.name = x) (e3 : I.qual = x) (e2 : I.st = st) (hc : I.cls = none) (hm : I.mth = none) (eg : I.gn = x) (a : PySem.W.nsIn K mainGlobals x = some (some (.ref f)))
    (l : K.lookup f = some ⟨oc, od, .func (PySem.W.fnOf x x (defArgs st) (defBody st) (defScope st) .none kV doc pm an cdv ct), osl⟩) (c : PySem.W.codeIn K cdv x = true) (k : PySem.W.keepIn K (.ref f) = true) : FK K I := by
  subst e e2
  rw [← e3] at l c
  refine ⟨f, _, fun_mk (by rw [e3] at l ⊢; exact l) c k, fun _ _ => by rw [eg]; exact a, fun c' h => ?_, fun c' m h => ?_⟩
  · rw [hc] at h
    cases h
  · rw [hm] at h
    cases h
theorem fkC {K : PySem.W.Frag} {I : FnI} {f C : Addr} {oc : Value} {od an : Option Addr} {osl : Array (Option Value)} {kV doc pm cdv ct : Value} {x q cn : Str} {st : Stmt} (e : I.name = x) (e3 : I.qual = q) (e2 : I.st = st) (hc : I.cls = some cn) (hm : I.mth = none) (a : PySem.W.nsIn K mainGlobals cn = some (some (.ref C)))
    (i : PySem.W.findIn K (.ref C) "__init__" = some (some (.ref f))) (fn : PySem.W.isFn K (.ref f) = true) (l : K.lookup f = some ⟨oc, od, .func (PySem.W.fnOf x q (defArgs st) (defBody st) (defScope st) .none kV doc pm an cdv ct), osl⟩) (c : PySem.W.codeIn K cdv q = true) (k : PySem.W.keepIn K (.ref f) = true)
    (mk : PySem.W.makesIn K C = true) (kc : PySem.W.keepIn K (.ref C) = true) : FK K I := by
  subst e e2 e3
  refine ⟨f, _, fun_mk l c k, fun h => ?_, fun c' h => ?_, fun c' m h => ?_⟩
  · rw [hc] at h
    cases h
  · rw [hc] at h
    cases h
    exact ⟨C, a, mk, i, fn, kc⟩
  · rw [hm] at h
    cases h
/-- a method -/
theorem fkM {K : PySem.W.Frag} {I : FnI} {f C : Addr} {oc : Value} {od an : Option Addr} {osl : Array (Option Value)} {kV doc pm cdv ct : Value} {x q cn : Str} {st : Stmt} (e : I.name = x) (e3 : I.qual = q) (e2 : I.st = st) (hc : I.cls = none) (hm : I.mth = some (cn, x)) (hpr : I.pr = false) (a : PySem.W.nsIn K mainGlobals cn = some (some (.ref C)))
    (i : PySem.W.findIn K (.ref C) x = some (some (.ref f))) (fn : PySem.W.isFn K (.ref f) = true) (l : K.lookup f = some ⟨oc, od, .func (PySem.W.fnOf x q (defArgs st) (defBody st) (defScope st) .none kV doc pm an cdv ct), osl⟩) (c : PySem.W.codeIn K cdv q = true) (k : PySem.W.keepIn K (.ref f) = true) : FK K I := by
  subst e e2 e3
  refine ⟨f, _, fun_mk l c k, fun _ h => ?_, fun c' h => ?_, fun c' m h => ?_⟩
  · rw [hm] at h
    cases h
  · rw [hc] at h
    cases h
  · rw [hm] at h
    cases h
    exact ⟨C, a, fun _ => ⟨i, fn, k⟩, fun h => absurd (hpr.symm.trans h) (by decide)⟩
/-- a property's getter -/
theorem fkP {K : PySem.W.Frag} {I : FnI} {f C p : Addr} {rest : List Value} {oc : Value} {od an : Option Addr} {osl : Array (Option Value)} {kV doc pm cdv ct : Value} {x q cn : Str} {st : Stmt} (e : I.name = x) (e3 : I.qual = q) (e2 : I.st = st) (hc : I.cls = none) (hm : I.mth = some (cn, x)) (hpr : I.pr = true) (a : PySem.W.nsIn K mainGlobals cn = some (some (.ref C)))
    (i : PySem.W.findIn K (.ref C) x = some (some (.ref p))) (g : PySem.W.specialIn K (.ref p) "__get__" = some (some (.builtin "property.__get__"))) (tk : PySem.W.takesIn K (.ref p) = some true) (r : PySem.W.recIn K p "property" = some (.ref f :: rest)) (l : K.lookup f = some ⟨oc, od, .func (PySem.W.fnOf x q (defArgs st) (defBody st) (defScope st) .none kV doc pm an cdv ct), osl⟩) (c : PySem.W.codeIn K cdv q = true) (k : PySem.W.keepIn K (.ref f) = true) : FK K I := by
  subst e e2 e3
  refine ⟨f, _, fun_mk l c k, fun _ h => ?_, fun c' h => ?_, fun c' m h => ?_⟩
  · rw [hm] at h
    cases h
  · rw [hc] at h
    cases h
  · rw [hm] at h
    cases h
    exact ⟨C, a, fun h => absurd (hpr.symm.trans h) (by decide), fun _ => ⟨p, i, g, tk, rest, r⟩⟩
inductive AllF (K : PySem.W.Frag) : List (Nat × FnI) → Prop
  | nil : AllF K []
  | cons {n : Nat} {I : FnI} {is : List (Nat × FnI)} : FK K I → AllF K is → AllF K ((n, I) :: is)
theorem AllF.get {K : PySem.W.Frag} : ∀ {is : List (Nat × FnI)}, AllF K is → ∀ (f : Nat) I, is.lookup f = some I → FK K I
  | _, .nil, f, I, h => by simp at h
  | _, .cons (n := g) a b, f, I, h => by
    simp only [List.lookup] at h
    cases z : f == g with
    | true => rw [z] at h; cases h; exact a
    | false => rw [z] at h; exact b.get f I h
inductive AllC (K : PySem.W.Frag) (gc : Nat → Option Tr) : List (Nat × Str) → Prop
  | nil : AllC K gc []
  | cons {k : Nat} {t : Tr} {x : Str} {xs : List (Nat × Str)} {u : Value} : gc k = some t → PySem.W.nsIn K mainGlobals x = some (some u) → okV K t u = true → AllC K gc xs → AllC K gc ((k, x) :: xs)
theorem AllC.get {K : PySem.W.Frag} {gc : Nat → Option Tr} : ∀ {xs : List (Nat × Str)}, AllC K gc xs → ∀ (k : Nat) t x, gc k = some t → xs.lookup k = some x → ∃ u, PySem.W.nsIn K mainGlobals x = some (some u) ∧ okV K t u = true
  | _, .nil, k, t, x, h, h' => by simp at h'
  | _, .cons (k := j) e a b c, k, t, x, h, h' => by
    simp only [List.lookup] at h'
    cases z : k == j with
    | true =>
      rw [z] at h'
      cases h'
      rw [eq_of_beq z, e] at h
      cases h
      exact ⟨_, a, b⟩
    | false => rw [z] at h'; exact c.get k t x h h'
inductive AllB (K : PySem.W.Frag) : List Str → Prop
  | nil : AllB K []
  | cons {x : Str} {xs : List Str} : PySem.W.nsIn K mainGlobals x = some none → AllB K xs → AllB K (x :: xs)
theorem AllB.get {K : PySem.W.Frag} : ∀ {xs : List Str}, AllB K xs → ∀ x ∈ xs, PySem.W.nsIn K mainGlobals x = some none
  | _, .nil, x, h => by cases h
  | _, .cons a b, x, h => by
    rcases List.mem_cons.mp h with rfl | h
    · exact a
    · exact b.get x h
inductive AllN (K : PySem.W.Frag) (C : Addr) : List Str → Prop
  | nil : AllN K C []
  | cons {f : Str} {fl : List Str} : PySem.W.findIn K (.ref C) f = some none → AllN K C fl → AllN K C (f :: fl)
theorem AllN.get {K : PySem.W.Frag} {C : Addr} : ∀ {fl : List Str}, AllN K C fl → ∀ f ∈ fl, NoAttr K C f
  | _, .nil, f, h => by cases h
  | _, .cons a b, f, h => by
    rcases List.mem_cons.mp h with rfl | h
    · exact a
    · exact b.get f h
theorem clsF {K : PySem.W.Frag} {fl : List Str} {C : Addr} (pg : PySem.W.plainGet K C Str.empty = true) (hd : PySem.W.hasDictIn K C = true) (po : PySem.W.plainOver K C = true) (sa : PySem.W.findIn K (.ref C) "__setattr__" = some (some (.builtin "object.__setattr__"))) (na : AllN K C fl)
    (k1 : PySem.W.kitOne K (.type "NoneType") (.ref C) = some false) (k2 : PySem.W.kitOne K (.type "bool") (.ref C) = some false) (k3 : PySem.W.kitOne K (.type "int") (.ref C) = some false) (k4 : PySem.W.kitOne K (.type "str") (.ref C) = some false) (k5 : PySem.W.kitOne K (.type "list") (.ref C) = some false) (k6 : PySem.W.kitOne K (.type "tuple") (.ref C) = some false) (k7 : PySem.W.kitOne K (.type "dict") (.ref C) = some false)
    (ha : PySem.W.findIn K (.ref C) "__class__" = some (some (.builtin "object.__class__"))) (hn : PySem.W.specialIn K (.builtin "object.__class__") "__get__" = some (some (.builtin "getset_descriptor.__get__"))) (htk : PySem.W.takesIn K (.builtin "object.__class__") = some true) (hm : PySem.W.mroIn K C (.type "object") = some true) : ClsF K fl C :=
  ⟨⟨pg, hd, po, sa⟩, na.get, fun T hT => by
    simp only [List.mem_cons, List.not_mem_nil, or_false] at hT
    rcases hT with rfl | rfl | rfl | rfl | rfl | rfl | rfl
    · exact k1
    · exact k2
    · exact k3
    · exact k4
    · exact k5
    · exact k6
    · exact k7, ha, hn, htk, hm⟩
inductive AllK (K : PySem.W.Frag) (fl : List Str) : List (Str × Addr) → Prop
  | nil : AllK K fl []
  | cons {c : Str} {C : Addr} {l : List (Str × Addr)} : PySem.W.nsIn K mainGlobals c = some (some (.ref C)) → ClsF K fl C → AllK K fl l → AllK K fl ((c, C) :: l)
inductive K2r (K : PySem.W.Frag) (c : Str) (C : Addr) : List (Str × Addr) → Prop
  | nil : K2r K c C []
  | cons {c' : Str} {C' : Addr} {l : List (Str × Addr)} : PySem.W.kitOne K (.ref C') (.ref C) = some (decide (c' = c)) → K2r K c C l → K2r K c C ((c', C') :: l)
inductive K2 (K : PySem.W.Frag) (L : List (Str × Addr)) : List (Str × Addr) → Prop
  | nil : K2 K L []
  | cons {c : Str} {C : Addr} {l : List (Str × Addr)} : K2r K c C L → K2 K L l → K2 K L ((c, C) :: l)
theorem AllK.get {K : PySem.W.Frag} {fl : List Str} : ∀ {l : List (Str × Addr)}, AllK K fl l → ∀ p ∈ l, PySem.W.nsIn K mainGlobals p.1 = some (some (.ref p.2)) ∧ ClsF K fl p.2
  | _, .nil, p, h => by cases h
  | _, .cons a b d, p, h => by
    rcases List.mem_cons.mp h with rfl | h
    · exact ⟨a, b⟩
    · exact d.get p h
theorem K2r.get {K : PySem.W.Frag} {c : Str} {C : Addr} : ∀ {l : List (Str × Addr)}, K2r K c C l → ∀ p ∈ l, PySem.W.kitOne K (.ref p.2) (.ref C) = some (decide (p.1 = c))
  | _, .nil, p, h => by cases h
  | _, .cons a d, p, h => by
    rcases List.mem_cons.mp h with rfl | h
    · exact a
    · exact d.get p h
theorem K2.get {K : PySem.W.Frag} {L : List (Str × Addr)} : ∀ {l : List (Str × Addr)}, K2 K L l → ∀ p ∈ l, K2r K p.1 p.2 L
  | _, .nil, p, h => by cases h
  | _, .cons a d, p, h => by
    rcases List.mem_cons.mp h with rfl | h
    · exact a
    · exact d.get p h
theorem dyn_mk {K : PySem.W.Frag} {mg : Str → Option Value} {h : Heap} {is : List (Nat × FnI)} {D : Ds} {gc : Nat → Option Tr} {L : List (Str × Addr)} (X : K.In h) (G : h.Ns mainGlobals mg) (hL : L.map (·.1) = D.cl) (hf : AllF K is) (hc : AllC K gc D.gls) (hb : AllB K D.blts) (hk : AllK K D.fl L) (h2 : K2 K L L) : Dyn K mg is D gc := by
  have cl : ∀ c ∈ D.cl, ∃ C, (c, C) ∈ L := fun c hc => by
    rw [← hL] at hc
    obtain ⟨⟨c', C⟩, h1, h2⟩ := List.mem_map.mp hc
    cases h2
    exact ⟨C, h1⟩
  refine ⟨fun f I e => ?_, fun k t x e1 e2 => ?_, fun c hc => ?_, fun c hc c' hc' C C' e e' => ?_, fun x hx => PySem.W.mg_none_of X G (hb.get x hx)⟩
  · obtain ⟨fa, fd, q1, q2, q3, q6⟩ := (hf.get f I e).ex
    refine ⟨fa, fd, q1, fun hc hm => PySem.W.mg_of X G (q2 hc hm), fun c hc => ?_, fun c m hm => ?_⟩
    · obtain ⟨C, q4, q5⟩ := q3 c hc
      exact ⟨C, PySem.W.mg_of X G q4, q5⟩
    · obtain ⟨C, q4, q5⟩ := q6 c m hm
      exact ⟨C, PySem.W.mg_of X G q4, q5⟩
  · obtain ⟨u, q1, q2⟩ := hc.get k t x e1 e2
    obtain ⟨v, r1, r2⟩ := okV_ok t u q2
    exact ⟨v, u, PySem.W.mg_of X G q1, r1, fun P w => r2 ⟨P, w, K, mg, D.cl⟩ _ _ rfl⟩
  · obtain ⟨C, hC⟩ := cl c hc
    obtain ⟨q1, q2⟩ := hk.get _ hC
    exact ⟨C, PySem.W.mg_of X G q1, q2⟩
  · obtain ⟨C1, hC1⟩ := cl c hc
    obtain ⟨C2, hC2⟩ := cl c' hc'
    have z1 := PySem.W.mg_of X G (hk.get _ hC1).1
    have z2 := PySem.W.mg_of X G (hk.get _ hC2).1
    rw [e] at z1
    rw [e'] at z2
    cases z1
    cases z2
    exact (h2.get _ hC1).get _ hC2
end Ev
/-! Plain facts of the evaluator. -/
namespace Ev
open PySem L2
theorem callS {gc : Nat → Option Tr} {wf : Nat} {fs : Nat → Option Fn} {d f : Nat} {fn : Fn} {ts : List Tr} {m : List Ob} (h : fs f = some fn) (hc : fn.cls = none) (hl : ts.length = fn.par) :
    callF gc wf fs (d + 1) f ts m = done (exSs gc (callF gc wf fs d) wf fn.body ⟨ts.map Slot.val ++ List.replicate (fn.loc - ts.length) Slot.none, m⟩) := by
  simp only [callF, h, hl, hc, if_true]
theorem callK {gc : Nat → Option Tr} {wf : Nat} {fs : Nat → Option Fn} {d f : Nat} {fn : Fn} {c : Str} {ts : List Tr} {m : List Ob} (h : fs f = some fn) (hc : fn.cls = some c) (hl : ts.length + 1 = fn.par) (hk : fn.keep = true) :
    callF gc wf fs (d + 2) f ts m = doneK m.length (exSs gc (callF gc wf fs d) wf fn.body ⟨(Tr.ob m.length :: ts).map Slot.val ++ List.replicate (fn.loc - (ts.length + 1)) Slot.none, m ++ [.ins c [] []]⟩) := by
  simp only [callF, h, hl, hc, hk, if_true]
theorem callC {gc : Nat → Option Tr} {wf : Nat} {fs : Nat → Option Fn} {d f : Nat} {fn : Fn} {c : Str} {ts : List Tr} {m : List Ob} (h : fs f = some fn) (hc : fn.cls = some c) (hl : ts.length + 1 = fn.par) (hk : fn.keep = false := by rfl) :
    callF gc wf fs (d + 2) f ts m = doneC m.length (exSs gc (callF gc wf fs d) wf fn.body ⟨(Tr.ob m.length :: ts).map Slot.val ++ List.replicate (fn.loc - (ts.length + 1)) Slot.none, m ++ [.ins c [] []]⟩) := by
  simp only [callF, h, hl, hc, hk, if_true]
  rfl
@[simp] theorem Rs.of_some {α : Type} {a : α} {s : Sta} : Rs.of (some a) s = .ok a s := rfl
theorem compGo_map {f : Tr → List Ob → Option (Option Tr × List Ob)} {g : Tr → Option Tr} {m : List Ob} : ∀ {xs acc : List Tr}, (∀ x ∈ xs, f x m = some (g x, m)) → acc.length + xs.length ≤ sizeLine → compGo f xs m acc = some (acc ++ xs.filterMap g, m)
  | [], acc, _, _ => by simp [compGo]
  | x :: xs, acc, h, hl => by
    rw [List.length_cons] at hl
    have h1 := h x (by simp)
    have h2 : ∀ y ∈ xs, f y m = some (g y, m) := fun y hy => h y (by simp [hy])
    simp only [compGo, h1]
    cases e : g x with
    | none =>
      dsimp only
      rw [compGo_map h2 (by omega)]
      simp [e]
    | some y =>
      dsimp only
      rw [if_pos (by omega), compGo_map h2 (by simp; omega)]
      simp [e]
@[simp] theorem boolsT : ∀ (n : Nat), boolsOf (List.replicate n (Tr.bl true)) = some (List.replicate n true)
  | 0 => rfl
  | n + 1 => by
    rw [List.replicate_succ, List.replicate_succ]
    simp only [boolsOf, boolsT n]
theorem allT (n : Nat) : biT .all [.lst (List.replicate n (.bl true))] = some (.bl true) := by
  simp only [biT, boolsT, Option.map_some]
  congr 2
  induction n with
  | zero => rfl
  | succ n ih => rw [List.replicate_succ, List.all_cons, ih]; rfl
/-! ### what can be compared -/
mutual
noncomputable def gd : Nat → Tr → Bool
  | _, .int _ => true
  | _, .str z => PyData.strOk z
  | 0, _ => false
  | n + 1, .tup l => gds n l
  | n + 1, .lst l => gds n l
  | _, _ => false
noncomputable def gds : Nat → List Tr → Bool
  | _, [] => true
  | n, t :: l => gd n t && gds n l
end
mutual
theorem gd_data : ∀ (n : Nat) (t : Tr), gd n t = true → ∃ d, t.data = some d ∧ d.canLay0 = true ∧ d.depth ≤ n
  | n, .int i, h => ⟨.int i, by simp only [Tr.data], by simp only [PyData.canLay0], by simp [PyData.depth]⟩
  | n, .str z, h => ⟨.str z, by simp only [Tr.data], by cases n <;> simpa only [PyData.canLay0, gd] using h, by simp [PyData.depth]⟩
  | 0, .tup l, h => by simp [gd] at h
  | 0, .lst l, h => by simp [gd] at h
  | n + 1, .tup l, h => by
    simp only [gd] at h
    obtain ⟨ds, h1, h2, h3⟩ := gds_data n l h
    exact ⟨.tuple ds, by simp only [Tr.data, h1], by simpa only [PyData.canLay0] using h2, by simp only [PyData.depth]; omega⟩
  | n + 1, .lst l, h => by
    simp only [gd] at h
    obtain ⟨ds, h1, h2, h3⟩ := gds_data n l h
    exact ⟨.list ds, by simp only [Tr.data, h1], by simpa only [PyData.canLay0] using h2, by simp only [PyData.depth]; omega⟩
  | n, .non, h => by cases n <;> simp [gd] at h
  | n, .bl b, h => by cases n <;> simp [gd] at h
  | n, .flst l, h => by cases n <;> simp [gd] at h
  | n, .ob b, h => by cases n <;> simp [gd] at h
  | n, .bor b, h => by cases n <;> simp [gd] at h
  | n, .dk _ _, h => by cases n <;> simp [gd] at h
  | n, .dt _ _, h => by cases n <;> simp [gd] at h
  | n, .dn _ _, h => by cases n <;> simp [gd] at h
  | n, .ins _ _ _, h => by cases n <;> simp [gd] at h
theorem gds_data : ∀ (n : Nat) (l : List Tr), gds n l = true → ∃ ds, datas l = some ds ∧ PyData.canLayAll0 ds = true ∧ PyData.depthAll ds ≤ n
  | n, [], h => ⟨[], by simp only [datas], by simp only [PyData.canLayAll0], by simp [PyData.depthAll]⟩
  | n, t :: l, h => by
    simp only [gds, Bool.and_eq_true] at h
    obtain ⟨d, h1, h2, h3⟩ := gd_data n t h.1
    obtain ⟨ds, h4, h5, h6⟩ := gds_data n l h.2
    exact ⟨d :: ds, by simp only [datas, h1, h4], by simp only [PyData.canLayAll0, h2, h5]; rfl, by simp only [PyData.depthAll]; omega⟩
end
theorem gds_iff {n : Nat} : ∀ {l : List Tr}, gds n l = true ↔ ∀ t ∈ l, gd n t = true
  | [] => by simp [gds]
  | t :: l => by simp only [gds, Bool.and_eq_true, gds_iff (l := l)]; simp
theorem shaped_of {n : Nat} {d : PyData} (h1 : d.canLay0 = true) (h2 : d.depth ≤ n) (h : n ≤ 64) : SeqAt.shaped d = true := by
  unfold SeqAt.shaped
  rw [h1]
  simp
  omega
theorem eqD_nil {n : Nat} {l : List Tr} (h : gds n l = true) (hn : n < 64) : eqT (.lst l) (.lst []) = some l.isEmpty := by
  obtain ⟨ds, h1, h2, h3⟩ := gds_data n l h
  have s1 : SeqAt.shaped (.list ds) = true := shaped_of (n := n + 1) (by simpa only [PyData.canLay0] using h2) (by simp only [PyData.depth]; omega) (by omega)
  have s2 : SeqAt.shaped (.list []) = true := by decide
  have e : PyData.eqv (.list ds) (.list []) = l.isEmpty := by
    cases l with
    | nil => simp only [datas] at h1; cases h1; rfl
    | cons t l =>
      simp only [datas] at h1
      split at h1
      · cases h1; rfl
      · cases h1
  show eqD _ _ = _
  unfold eqD
  simp only [Tr.data, h1, datas, s1, s2, e]
  rfl
theorem eqT_pair (a b c d : Int) : eqT (.tup [.int a, .int b]) (.tup [.int c, .int d]) = some (decide ((a, b) = (c, d))) := by
  simp [eqT, eqD, Tr.data, datas, SeqAt.shaped, PyData.canLay0, PyData.canLayAll0, PyData.depth, PyData.depthAll, PyData.eqv, PyData.eqvAll]
  rw [Bool.eq_iff_iff]
  simp
/-! ### operators at numbers -/
noncomputable def Lil (i : Int) : Prop := i.natAbs.log2 < 400000
theorem log2_le_of {a k : Nat} (hk : 0 < k) (h : a < 2 ^ k) : a.log2 < k := by
  by_cases z : a = 0
  · subst z; simpa using hk
  · exact (Nat.log2_lt z).mpr h
theorem Lil.of {i : Int} (k : Nat) (hk : 0 < k) (hk2 : k ≤ 400000) (h : i.natAbs < 2 ^ k) : Lil i := Nat.lt_of_lt_of_le (log2_le_of hk h) hk2
theorem Lil.of64 {i : Int} (h1 : -9223372036854775808 < i) (h2 : i < 9223372036854775808) : Lil i := Lil.of 63 (by omega) (by omega) (by omega)
@[simp] theorem opB_add (i j : Int) : opB .add (.int i) (.int j) = some (.int (i + j)) := rfl
@[simp] theorem opB_sub (i j : Int) : opB .sub (.int i) (.int j) = some (.int (i - j)) := rfl
theorem opB_mul {i j : Int} (hi : Lil i) (hj : Lil j) : opB .mul (.int i) (.int j) = some (.int (i * j)) := by
  simp only [opB]
  exact if_pos (by unfold Lil at hi hj; omega)
theorem opB_mod {i j : Int} (h : 0 < j) : opB .mod (.int i) (.int j) = some (.int (i % j)) := by
  simp only [opB]
  exact if_pos h
theorem opB_fdiv {i j : Int} (h : 0 < j) (h2 : j < 1152921504606846976) : opB .fdiv (.int i) (.int j) = some (.int (i / j)) := by
  simp only [opB]
  exact if_pos ⟨h, Nat.lt_trans (log2_le_of (k := 60) (by omega) (by omega)) (by omega)⟩
theorem opB_pow {i j : Int} (h : 0 ≤ j) (h2 : (Builtin.Int.intBits i : Int) * j ≤ 2 ^ 27) : opB .pow (.int i) (.int j) = some (.int (i ^ j.toNat)) := by
  simp only [opB]
  exact if_pos ⟨h, h2⟩
theorem opB_cube {i : Int} (h1 : -9223372036854775808 < i) (h2 : i < 1267650600228229401496703205376) : opB .pow (.int i) (.int 3) = some (.int (i ^ 3)) := by
  refine opB_pow (by omega) ?_
  have : Builtin.Int.intBits i ≤ 101 := by
    unfold Builtin.Int.intBits
    split
    · omega
    · have := log2_le_of (a := i.natAbs) (k := 100) (by omega) (by omega)
      omega
  omega
theorem opB_addS {a b : Str} (h : a.length + b.length ≤ sizeLine) : opB .add (.str a) (.str b) = some (.str (a ++ b)) := by
  simp only [opB]
  exact if_pos h
theorem opB_addL {a b : List Tr} (h : a.length + b.length ≤ sizeLine) : opB .add (.lst a) (.lst b) = some (.lst (a ++ b)) := by
  simp only [opB]
  exact if_pos h
theorem opC2_of {o : Cp} {x y : Tr} (h1 : x.pure = true) (h2 : y.pure = true) : opC2 o x y = opC o x y := by
  unfold opC2
  rw [h1, h2]
  rfl
@[simp] theorem opC2_lt (i j : Int) : opC2 .lt (.int i) (.int j) = some (decide (i < j)) := rfl
@[simp] theorem opC2_le (i j : Int) : opC2 .le (.int i) (.int j) = some (decide (i ≤ j)) := rfl
@[simp] theorem opC2_gt (i j : Int) : opC2 .gt (.int i) (.int j) = some (decide (j < i)) := rfl
@[simp] theorem opC2_ge (i j : Int) : opC2 .ge (.int i) (.int j) = some (decide (j ≤ i)) := rfl
@[simp] theorem opC2_eqI (i j : Int) : opC2 .eq (.int i) (.int j) = some (decide (i = j)) := rfl
@[simp] theorem opC2_neI (i j : Int) : opC2 .ne (.int i) (.int j) = some (!decide (i = j)) := rfl
@[simp] theorem opC2_eqS (i j : Str) : opC2 .eq (.str i) (.str j) = some (decide (i = j)) := rfl
@[simp] theorem opC2_neS (i j : Str) : opC2 .ne (.str i) (.str j) = some (!decide (i = j)) := rfl
@[simp] theorem opC2_eqT (i j : List Tr) : opC2 .eq (.tup i) (.tup j) = eqT (.tup i) (.tup j) := rfl
@[simp] theorem opC2_neT (i j : List Tr) : opC2 .ne (.tup i) (.tup j) = (eqT (.tup i) (.tup j)).map (!·) := rfl
@[simp] theorem opC2_eqL (i j : List Tr) : opC2 .eq (.lst i) (.lst j) = eqT (.lst i) (.lst j) := rfl
@[simp] theorem opC2_neL (i j : List Tr) : opC2 .ne (.lst i) (.lst j) = (eqT (.lst i) (.lst j)).map (!·) := rfl
@[simp] theorem opC2_isN : opC2 .isN .non .non = some true := rfl
@[simp] theorem opC2_isNI (i : Int) : opC2 .isN (.int i) .non = some false := rfl
@[simp] theorem opC2_inT (x : Str) (l : List Tr) : opC2 .inn (.str x) (.tup l) = inT (.str x) (.tup l) := rfl
@[simp] theorem opC2_ninT (x : Str) (l : List Tr) : opC2 .nin (.str x) (.tup l) = (inT (.str x) (.tup l)).map (!·) := rfl
@[simp] theorem done_ret (t : Tr) (s : Sta) : done (.ok (.ret t) s) = some (t, s.mem) := rfl
@[simp] theorem done_next (s : Sta) : done (.ok .next s) = some (.non, s.mem) := rfl
@[simp] theorem sizeLine_eq : sizeLine = 16777216 := rfl
theorem set_get {α : Type} {l : List α} {n : Nat} {x y : α} (h : l[n]? = some y) : (l.set n x)[n]? = some x := by
  rw [List.getElem?_set_self (List.getElem?_eq_some_iff.mp h).1]
theorem atI_nat {α : Type} (l : List α) (n : Nat) : atI l (n : Int) = l[n]? := by
  unfold atI ixN
  by_cases h : n < l.length
  · simp [h]
  · have e : l[n]? = none := List.getElem?_eq_none (by omega)
    simp [h, e]
theorem atI_m1 {α : Type} (l : List α) : atI l (-1) = l.getLast? := by
  unfold atI ixN
  cases l with
  | nil => rfl
  | cons a l =>
    have e : (-1 + ((a :: l).length : Int)).toNat = l.length := by rw [List.length_cons]; omega
    rw [if_neg (by omega), if_pos (by rw [List.length_cons]; omega), e, List.getLast?_eq_getElem?]
    rfl
@[simp] theorem idxT_tm (l : List Tr) : idxT (.tup l) (.int (-1)) = l.getLast? := atI_m1 l
@[simp] theorem idxT_lm (l : List Tr) : idxT (.lst l) (.int (-1)) = l.getLast? := atI_m1 l
@[simp] theorem idxT_t0 (l : List Tr) : idxT (.tup l) (.int 0) = l[0]? := atI_nat l 0
@[simp] theorem idxT_l0 (l : List Tr) : idxT (.lst l) (.int 0) = l[0]? := atI_nat l 0
@[simp] theorem idxT_t1 (l : List Tr) : idxT (.tup l) (.int 1) = l[1]? := atI_nat l 1
@[simp] theorem idxT_l1 (l : List Tr) : idxT (.lst l) (.int 1) = l[1]? := atI_nat l 1
@[simp] theorem idxT_t2 (l : List Tr) : idxT (.tup l) (.int 2) = l[2]? := atI_nat l 2
@[simp] theorem idxT_l2 (l : List Tr) : idxT (.lst l) (.int 2) = l[2]? := atI_nat l 2
@[simp] theorem idxT_t3 (l : List Tr) : idxT (.tup l) (.int 3) = l[3]? := atI_nat l 3
@[simp] theorem idxT_l3 (l : List Tr) : idxT (.lst l) (.int 3) = l[3]? := atI_nat l 3
@[simp] theorem idxT_t4 (l : List Tr) : idxT (.tup l) (.int 4) = l[4]? := atI_nat l 4
@[simp] theorem idxT_l4 (l : List Tr) : idxT (.lst l) (.int 4) = l[4]? := atI_nat l 4
@[simp] theorem idxT_t5 (l : List Tr) : idxT (.tup l) (.int 5) = l[5]? := atI_nat l 5
@[simp] theorem idxT_l5 (l : List Tr) : idxT (.lst l) (.int 5) = l[5]? := atI_nat l 5
@[simp] theorem p_non : Tr.pure .non = true := rfl
@[simp] theorem p_bl (x : Bool) : Tr.pure (.bl x) = true := rfl
@[simp] theorem d_bl (s : Sta) (x : Bool) : s.deref (.bl x) = .bl x := rfl
@[simp] theorem p_int (x : Int) : Tr.pure (.int x) = true := rfl
@[simp] theorem d_int (s : Sta) (x : Int) : s.deref (.int x) = .int x := rfl
@[simp] theorem p_str (x : Str) : Tr.pure (.str x) = true := rfl
@[simp] theorem d_str (s : Sta) (x : Str) : s.deref (.str x) = .str x := rfl
@[simp] theorem p_tup (x : List Tr) : Tr.pure (.tup x) = true := rfl
@[simp] theorem d_tup (s : Sta) (x : List Tr) : s.deref (.tup x) = .tup x := rfl
@[simp] theorem p_lst (x : List Tr) : Tr.pure (.lst x) = true := rfl
@[simp] theorem d_lst (s : Sta) (x : List Tr) : s.deref (.lst x) = .lst x := rfl
@[simp] theorem p_flst (x : List Tr) : Tr.pure (.flst x) = true := rfl
@[simp] theorem d_flst (s : Sta) (x : List Tr) : s.deref (.flst x) = .flst x := rfl
@[simp] theorem p_ob (x : Nat) : Tr.pure (.ob x) = true := rfl
@[simp] theorem d_ob (s : Sta) (x : Nat) : s.deref (.ob x) = .ob x := rfl
@[simp] theorem d_non (s : Sta) : s.deref .non = .non := rfl
@[simp] theorem p_bor (i : Nat) : Tr.pure (.bor i) = false := rfl
theorem d_own {s : Sta} {i : Nat} {o : Ob} (h : s.env[i]? = some (.own o)) : s.deref (.bor i) = o.tr := by simp only [Sta.deref, h]
@[simp] theorem p_dk (x : List Key) (y : List Tr) : Tr.pure (.dk x y) = true := rfl
@[simp] theorem d_dk (s : Sta) (x : List Key) (y : List Tr) : s.deref (.dk x y) = .dk x y := rfl
@[simp] theorem p_dt (x : List (List Key)) (y : List Tr) : Tr.pure (.dt x y) = true := rfl
@[simp] theorem p_dn (x : List NestedKey) (y : List Tr) : Tr.pure (.dn x y) = true := rfl
@[simp] theorem d_dt (s : Sta) (x : List (List Key)) (y : List Tr) : s.deref (.dt x y) = .dt x y := rfl
@[simp] theorem d_dn (s : Sta) (x : List NestedKey) (y : List Tr) : s.deref (.dn x y) = .dn x y := rfl
@[simp] theorem p_ins (c : Str) (x : List Str) (y : List Tr) : Tr.pure (.ins c x y) = true := rfl
@[simp] theorem d_ins (s : Sta) (c : Str) (x : List Str) (y : List Tr) : s.deref (.ins c x y) = .ins c x y := rfl
@[simp] theorem o_lst (l : List Tr) : Ob.tr (.lst l) = .lst l := rfl
@[simp] theorem o_dk (x : List Key) (y : List Tr) : Ob.tr (.dk x y) = .dk x y := rfl
@[simp] theorem o_dt (x : List (List Key)) (y : List Tr) : Ob.tr (.dt x y) = .dt x y := rfl
@[simp] theorem o_dn (x : List NestedKey) (y : List Tr) : Ob.tr (.dn x y) = .dn x y := rfl
@[simp] theorem isC_ins (c d : Str) (x : List Str) (y : List Tr) : isCT c (.ins d x y) = some (.bl (decide (d = c))) := rfl
@[simp] theorem b_lenT (l : List Tr) : biT .len [.tup l] = some (.int l.length) := rfl
@[simp] theorem b_lenL (l : List Tr) : biT .len [.lst l] = some (.int l.length) := rfl
@[simp] theorem b_lenF (l : List Tr) : biT .len [.flst l] = some (.int l.length) := rfl
@[simp] theorem b_lenD (l : List Key) (v : List Tr) : biT .len [.dk l v] = some (.int l.length) := rfl
@[simp] theorem b_abs (i : Int) : biT .abs [.int i] = some (.int (if i < 0 then -i else i)) := rfl
@[simp] theorem b_intI (i : Int) : biT .int [.int i] = some (.int i) := rfl
@[simp] theorem b_intB (k : Bool) : biT .int [.bl k] = some (.int (if k then 1 else 0)) := rfl
@[simp] theorem b_max2 (i j : Int) : biT .max2 [.int i, .int j] = some (.int (if j > i then j else i)) := rfl
@[simp] theorem b_min2 (i j : Int) : biT .min2 [.int i, .int j] = some (.int (if j < i then j else i)) := rfl
@[simp] theorem b_listT (l : List Tr) : biT .listOf [.tup l] = some (.lst l) := rfl
@[simp] theorem b_listL (l : List Tr) : biT .listOf [.lst l] = some (.lst l) := rfl
@[simp] theorem b_tupT (l : List Tr) : biT .tupOf [.tup l] = some (.tup l) := rfl
@[simp] theorem b_tupL (l : List Tr) : biT .tupOf [.lst l] = some (.tup l) := rfl
@[simp] theorem b_all (l : List Tr) : biT .all [.lst l] = (boolsOf l).map fun bs => .bl (bs.all id) := rfl
@[simp] theorem b_any (l : List Tr) : biT .any [.lst l] = (boolsOf l).map fun bs => .bl (bs.any id) := rfl
@[simp] theorem b_isIntI (i : Int) : biT .isInt [.int i] = some (.bl true) := rfl
@[simp] theorem b_isIntT (l : List Tr) : biT .isInt [.tup l] = some (.bl false) := rfl
@[simp] theorem b_isIntS (l : Str) : biT .isInt [.str l] = some (.bl false) := rfl
@[simp] theorem b_isIntN : biT .isInt [.non] = some (.bl false) := rfl
@[simp] theorem b_isBoolI (i : Int) : biT .isBool [.int i] = some (.bl false) := rfl
@[simp] theorem b_isStrS (x : Str) : biT .isStr [.str x] = some (.bl true) := rfl
@[simp] theorem b_isStrI (x : Int) : biT .isStr [.int x] = some (.bl false) := rfl
@[simp] theorem b_isStrT (x : List Tr) : biT .isStr [.tup x] = some (.bl false) := rfl
@[simp] theorem b_isTupT (x : List Tr) : biT .isTup [.tup x] = some (.bl true) := rfl
@[simp] theorem b_strI {i : Int} (h : i.natAbs.log2 < 1920) : biT .strOf [.int i] = some (.str (toString i)) := if_pos h
@[simp] theorem b_lenS {x : Str} (h : x.length ≤ sizeLine) : biT .len [.str x] = some (.int x.length) := if_pos h
@[simp] theorem opC2_notN : opC2 .notN .non .non = some false := rfl
@[simp] theorem opC2_notNI (i : Int) : opC2 .notN (.int i) .non = some true := rfl
@[simp] theorem opC2_notNT (i : List Tr) : opC2 .notN (.tup i) .non = some true := rfl
@[simp] theorem opC2_isNT (i : List Tr) : opC2 .isN (.tup i) .non = some false := rfl
@[simp] theorem opC2_isNS (i : Str) : opC2 .isN (.str i) .non = some false := rfl
@[simp] theorem rbind_ok {α β : Type} (a : α) (s : Sta) (f : α → Sta → Rs β) : (Rs.ok a s).bind f = f a s := rfl
@[simp] theorem rbind_no {α β : Type} (f : α → Sta → Rs β) : (Rs.no : Rs α).bind f = .no := rfl
@[simp] theorem truth_bl (b : Bool) : truth (.bl b) = some b := rfl
@[simp] theorem truth_non : truth .non = some false := rfl
@[simp] theorem truth_int (b : Int) : truth (.int b) = some (b != 0) := rfl
@[simp] theorem truth_tup (b : List Tr) : truth (.tup b) = some !b.isEmpty := rfl
@[simp] theorem truth_lst (b : List Tr) : truth (.lst b) = some !b.isEmpty := rfl
@[simp] theorem seqT_t (b : List Tr) : seqT (.tup b) = some b := rfl
@[simp] theorem seqT_l (b : List Tr) : seqT (.lst b) = some b := rfl
@[simp] theorem seqT_f (b : List Tr) : seqT (.flst b) = some b := rfl
@[simp] theorem allRep (n : Nat) : (List.replicate n true).all id = true := by
  induction n with
  | zero => rfl
  | succ n ih => rw [List.replicate_succ, List.all_cons, ih]; rfl
theorem eqT_int (a b : Int) : eqT (.int a) (.int b) = some (decide (a = b)) := rfl
theorem eqT_str (a b : Str) : eqT (.str a) (.str b) = some (decide (a = b)) := rfl
end Ev
/-! The evaluator with its continuations named, for stepwise evaluation. -/
namespace Ev
open PySem L2
section
variable (gc : Nat → Option Tr) (cf : CF)
noncomputable def kTruth (x : Tr) (s1 : Sta) : Rs Tr := Rs.of ((truth (s1.deref x)).map Tr.bl) s1
@[simp] noncomputable def kVar (i : Nat) (s : Sta) : Option Slot → Rs Tr
  | some (.val t) => .ok t s
  | some (.own _) => .ok (.bor i) s
  | _ => .no
@[simp] noncomputable def kMv (i : Nat) (s : Sta) : Option Slot → Rs Tr
  | some (.own o) => .ok o.tr ⟨s.env.set i (.val o.tr), s.mem⟩
  | _ => .no
@[simp] noncomputable def kTup (ts : List Tr) (s1 : Sta) : Rs Tr := if ts.all Tr.pure && decide (ts.length ≤ sizeLine) then .ok (.tup ts) s1 else .no
@[simp] noncomputable def kLst (ts : List Tr) (s1 : Sta) : Rs Tr := if ts.all Tr.pure && decide (ts.length ≤ sizeLine) then .ok (.lst ts) s1 else .no
@[simp] noncomputable def kShd (ts : List Tr) (s1 : Sta) : Rs Tr := if ts.all Tr.pure && decide (ts.length ≤ sizeLine) then .ok (.ob s1.mem.length) ⟨s1.env, s1.mem ++ [.lst ts]⟩ else .no
@[simp] noncomputable def kBin2 (o : Op) (x y : Tr) (s2 : Sta) : Rs Tr := Rs.of (opB o (s2.deref x) (s2.deref y)) s2
@[simp] noncomputable def kBin1 (o : Op) (b : Ex) (x : Tr) (s1 : Sta) : Rs Tr := (evX gc cf b false s1).bind (kBin2 o x)
@[simp] noncomputable def kNeg (x : Tr) (s1 : Sta) : Rs Tr := match x with
  | .int i => .ok (.int (-i)) s1
  | _ => .no
@[simp] noncomputable def kCmp2 (o : Cp) (x y : Tr) (s2 : Sta) : Rs Tr := Rs.of ((opC2 o (s2.deref x) (s2.deref y)).map Tr.bl) s2
@[simp] noncomputable def kCmp1 (o : Cp) (b : Ex) (x : Tr) (s1 : Sta) : Rs Tr := (evX gc cf b false s1).bind (kCmp2 o x)
@[simp] noncomputable def kChain3 (p : Cp) (y z : Tr) (s3 : Sta) : Rs Tr := Rs.of ((opC2 p (s3.deref y) (s3.deref z)).map Tr.bl) s3
@[simp] noncomputable def kChain2' (p : Cp) (c : Ex) (y : Tr) (s2 : Sta) : Option Bool → Rs Tr
  | some true => (evX gc cf c false s2).bind (kChain3 p y)
  | some false => .ok (.bl false) s2
  | none => .no
@[simp] noncomputable def kChain2 (o p : Cp) (c : Ex) (x y : Tr) (s2 : Sta) : Rs Tr := kChain2' gc cf p c y s2 (opC2 o (s2.deref x) (s2.deref y))
@[simp] noncomputable def kChain1 (o p : Cp) (b c : Ex) (x : Tr) (s1 : Sta) : Rs Tr := (evX gc cf b false s1).bind (kChain2 gc cf o p c x)
@[simp] noncomputable def kAnd (b : Ex) (md : Bool) (x : Tr) (s1 : Sta) : Rs Tr := match x with
  | .bl true => evX gc cf b md s1
  | .bl false => .ok (.bl false) s1
  | _ => .no
@[simp] noncomputable def kOr (b : Ex) (md : Bool) (x : Tr) (s1 : Sta) : Rs Tr := match x with
  | .bl false => evX gc cf b md s1
  | .bl true => .ok (.bl true) s1
  | _ => .no
@[simp] noncomputable def kNot (x : Tr) (s1 : Sta) : Rs Tr := match x with
  | .bl b => .ok (.bl !b) s1
  | _ => .no
@[simp] noncomputable def kIte (a b : Ex) (md : Bool) (x : Tr) (s1 : Sta) : Rs Tr := match x with
  | .bl true => evX gc cf a md s1
  | .bl false => evX gc cf b md s1
  | _ => .no
@[simp] noncomputable def kIdxM (y : Tr) (s2 : Sta) : Option Ob → Rs Tr
  | some (.lst l) => Rs.of (idxT (.lst l) y) s2
  | _ => .no
@[simp] noncomputable def kIdx3 (y : Tr) (s2 : Sta) (t : Tr) : Rs Tr := match t with
  | .ob n => kIdxM y s2 s2.mem[n]?
  | t => Rs.of (idxT t (s2.deref y)) s2
@[simp] noncomputable def kIdx2 (x y : Tr) (s2 : Sta) : Rs Tr := kIdx3 y s2 (s2.deref x)
@[simp] noncomputable def kIdx1 (b : Ex) (x : Tr) (s1 : Sta) : Rs Tr := (evX gc cf b false s1).bind (kIdx2 x)
@[simp] noncomputable def kSl3 (x : Tr) (l h : Option Int) (s3 : Sta) : Rs Tr := Rs.of (slT (s3.deref x) l h) s3
@[simp] noncomputable def kO (e : Ex) (s : Sta) : Rs (Option Int) := if isNul e then .ok none s else asInt (evX gc cf e false s)
@[simp] noncomputable def kSl2 (hi : Ex) (x : Tr) (l : Option Int) (s2 : Sta) : Rs Tr := (kO gc cf hi s2).bind (kSl3 x l)
@[simp] noncomputable def kSl1 (lo hi : Ex) (x : Tr) (s1 : Sta) : Rs Tr := (kO gc cf lo s1).bind (kSl2 gc cf hi x)
@[simp] noncomputable def kStp3 (x : Tr) (l : Option Int) (y : Tr) (s3 : Sta) : Rs Tr := match s3.deref x, y with
  | .tup ls, .int 2 => .ok (.tup (halfT (ls.drop (HT.sIx ls.length 0 l)))) s3
  | _, _ => .no
@[simp] noncomputable def kStp2 (st : Ex) (x : Tr) (l : Option Int) (s2 : Sta) : Rs Tr := (evX gc cf st false s2).bind (kStp3 x l)
@[simp] noncomputable def kStp1 (lo st : Ex) (x : Tr) (s1 : Sta) : Rs Tr := (kO gc cf lo s1).bind (kStp2 gc cf st x)
@[simp] noncomputable def kRev (x : Tr) (s1 : Sta) : Rs Tr := match s1.deref x with
  | .lst l => .ok (.lst l.reverse) s1
  | .tup l => .ok (.tup l.reverse) s1
  | _ => .no
@[simp] noncomputable def kRes (s1 : Sta) : Option (Tr × List Ob) → Rs Tr
  | some (t, m) => .ok t ⟨s1.env, m⟩
  | none => .no
@[simp] noncomputable def kCall (f : Nat) (ts : List Tr) (s1 : Sta) : Rs Tr := if ts.all Tr.pure then kRes s1 (cf f ts s1.mem) else .no
@[simp] noncomputable def kCallK2 (f : Nat) (ts us : List Tr) (s2 : Sta) : Rs Tr := if (ts ++ us).all Tr.pure then kRes s2 (cf f (ts ++ us) s2.mem) else .no
@[simp] noncomputable def kCallK1 (f : Nat) (ks : List Ex) (ts : List Tr) (s1 : Sta) : Rs Tr := (evEs gc cf ks s1).bind (kCallK2 cf f ts)
@[simp] noncomputable def kBi (b : Bi) (ts : List Tr) (s1 : Sta) : Rs Tr := if (ts.map s1.deref).all Tr.pure then Rs.of (biT b (ts.map s1.deref)) s1 else .no
@[simp] noncomputable def kPop2 (i : Nat) (s : Sta) (l : List Tr) : Option Tr → Rs Tr
  | some t => .ok t ⟨s.env.set i (.own (.lst l.dropLast)), s.mem⟩
  | none => .no
@[simp] noncomputable def kPop (i : Nat) (s : Sta) : Option Slot → Rs Tr
  | some (.own (.lst l)) => kPop2 i s l l.getLast?
  | _ => .no
@[simp] noncomputable def kCallP2 (f : Nat) (ps : List Nat) (ts us : List Tr) (s2 : Sta) : Rs Tr := if (ts ++ us).all Tr.pure then kRes s2 (cf f (ts ++ ps.filterMap fun i => us[i]?) s2.mem) else .no
@[simp] noncomputable def kCallP1 (f : Nat) (ks : List Ex) (ps : List Nat) (ts : List Tr) (s1 : Sta) : Rs Tr := (evEs gc cf ks s1).bind (kCallP2 cf f ps ts)
@[simp] noncomputable def kOrV (b : Ex) (x : Tr) (s1 : Sta) : Option Bool → Rs Tr
  | some true => .ok x s1
  | some false => evX gc cf b false s1
  | none => .no
@[simp] noncomputable def kOrV1 (b : Ex) (x : Tr) (s1 : Sta) : Rs Tr := kOrV gc cf b x s1 (truth (s1.deref x))
@[simp] noncomputable def kFldM (f : Str) (s1 : Sta) : Option Ob → Rs Tr
  | some (.ins _ ns l) => Rs.of (getK f ns l) s1
  | _ => .no
@[simp] noncomputable def kFld2 (f : Str) (s1 : Sta) : Tr → Rs Tr
  | .ins _ ns l => Rs.of (getK f ns l) s1
  | .ob n => kFldM f s1 s1.mem[n]?
  | _ => .no
@[simp] noncomputable def kFld (f : Str) (x : Tr) (s1 : Sta) : Rs Tr := kFld2 f s1 (s1.deref x)
@[simp] noncomputable def kIsC (c : Str) (x : Tr) (s1 : Sta) : Rs Tr := Rs.of (isCT c (s1.deref x)) s1
@[simp] noncomputable def kDsp2 (s1 : Sta) : Option (List Key × List Tr) → Rs Tr
  | some (ks, vs) => if ks.Nodup ∧ ks.length ≤ 15 then .ok (.dk ks vs) s1 else .no
  | none => .no
@[simp] noncomputable def kDsp (ts : List Tr) (s1 : Sta) : Rs Tr := if ts.all Tr.pure then kDsp2 s1 (dspT ts) else .no
@[simp] noncomputable def kMeth2 (m : Mt) (x : Tr) (ts : List Tr) (s2 : Sta) : Rs Tr := if (s2.deref x).pure && (ts.map s2.deref).all Tr.pure then Rs.of (mtT m (s2.deref x) (ts.map s2.deref)) s2 else .no
@[simp] noncomputable def kMeth (m : Mt) (es : List Ex) (x : Tr) (s1 : Sta) : Rs Tr := if recvOk m (s1.deref x) then (evEs gc cf es s1).bind (kMeth2 m x) else .no
@[simp] noncomputable def kPA3 (i : Nat) (l : List Tr) (s1 : Sta) : Option Nat → Rs Tr
  | some j => if l.length ≤ sizeLine then Rs.of l[j]? ⟨s1.env.set i (.own (.lst (l.eraseIdx j))), s1.mem⟩ else .no
  | none => .no
@[simp] noncomputable def kPA2 (i : Nat) (s1 : Sta) : Option Slot → Tr → Rs Tr
  | some (.own (.lst l)), .int k => kPA3 i l s1 (ixN l.length k)
  | _, _ => .no
@[simp] noncomputable def kPA1 (i : Nat) (t : Tr) (s1 : Sta) : Rs Tr := kPA2 i s1 s1.env[i]? t
@[simp] noncomputable def kPA (i : Nat) (e : Ex) (s : Sta) : Option Slot → Rs Tr
  | some (.own (.lst _)) => (evX gc cf e false s).bind (kPA1 i)
  | _ => .no
@[simp] noncomputable def kComp3 (s1 : Sta) : Option (List Tr × List Ob) → Rs Tr
  | some (ys, m) => .ok (.lst ys) ⟨s1.env, m⟩
  | none => .no
@[simp] noncomputable def kCond (cond : Ex) (s : Sta) : Rs Tr := if isNul cond then .ok (.bl true) s else evX gc cf cond true s
@[simp] noncomputable def kElt (elt : Ex) (s : Sta) : Rs Tr := evX gc cf elt false s
@[simp] noncomputable def kComp2 (elt : Ex) (tg : Tg) (cond : Ex) (own : List Nat) (s1 : Sta) : Option (List Tr) → Rs Tr
  | some xs => kComp3 s1 (compGo (compF tg (wipeE (s1.env.map Slot.lock) own) (kCond gc cf cond) (kElt gc cf elt)) xs s1.mem [])
  | none => .no
@[simp] noncomputable def kComp (k : Nat) (elt : Ex) (tg : Tg) (cond : Ex) (own : List Nat) (vs : List Tr) (s1 : Sta) : Rs Tr := kComp2 gc cf elt tg cond own s1 (if (vs.map s1.deref).all Tr.pure then items k (vs.map s1.deref) else none)
@[simp] noncomputable def kEs2 (t : Tr) (ts : List Tr) (s2 : Sta) : Rs (List Tr) := .ok (t :: ts) s2
@[simp] noncomputable def kEs1 (es : List Ex) (t : Tr) (s1 : Sta) : Rs (List Tr) := (evEs gc cf es s1).bind (kEs2 t)
@[simp] noncomputable def kSt2 (l ts : List Tr) (s2 : Sta) : Rs (List Tr) := .ok (l ++ ts) s2
@[simp] noncomputable def kSt3 (es : List Ex) (bs : List Bool) (s1 : Sta) : Option (List Tr) → Rs (List Tr)
  | some l => (evSt gc cf es bs.tail s1).bind (kSt2 l)
  | none => .no
@[simp] noncomputable def kSt1 (es : List Ex) (bs : List Bool) (t : Tr) (s1 : Sta) : Rs (List Tr) := if bs.headD false then kSt3 gc cf es bs s1 (seqT (s1.deref t)) else (evSt gc cf es bs.tail s1).bind (kEs2 t)
@[simp] noncomputable def kDisp (k : Nat) (ts : List Tr) (s1 : Sta) : Rs Tr := if ts.all Tr.pure && decide (ts.length ≤ sizeLine) then (match k with
      | 0 => .ok (.tup ts) s1
      | 1 => .ok (.lst ts) s1
      | _ => .ok (.ob s1.mem.length) ⟨s1.env, s1.mem ++ [.lst ts]⟩) else .no
end
section
variable {gc : Nat → Option Tr} {cf : CF} {s : Sta} {e a b c : Ex} {es : List Ex}
@[simp] theorem q_var {i : Nat} : evX gc cf (.var i) false s = kVar i s s.env[i]? := by simp only [evX, fin]; rfl
@[simp] theorem q_mv {i : Nat} : evX gc cf (.mv i) false s = kMv i s s.env[i]? := by simp only [evX, fin]; rfl
@[simp] theorem q_gl {k : Nat} : evX gc cf (.gl k) false s = Rs.of (gc k) s := by simp only [evX, fin]
@[simp] theorem q_int {i : Int} : evX gc cf (.int i) false s = .ok (.int i) s := by simp only [evX, fin]
@[simp] theorem q_str {x : Str} : evX gc cf (.str x) false s = .ok (.str x) s := by simp only [evX, fin]
@[simp] theorem q_bl {x : Bool} : evX gc cf (.bl x) false s = .ok (.bl x) s := by simp only [evX, fin]
@[simp] theorem q_non : evX gc cf .non false s = .ok .non s := by simp only [evX, fin]
@[simp] theorem q_tup : evX gc cf (.tup es) false s = (evEs gc cf es s).bind kTup := by simp only [evX, fin]; rfl
@[simp] theorem q_lst : evX gc cf (.lst es) false s = (evEs gc cf es s).bind kLst := by simp only [evX, fin]; rfl
@[simp] theorem q_shd : evX gc cf (.shd es) false s = (evEs gc cf es s).bind kShd := by simp only [evX, fin]; rfl
@[simp] theorem q_disp {k : Nat} {bs : List Bool} : evX gc cf (.disp k bs es) false s = (evSt gc cf es bs s).bind (kDisp k) := by simp only [evX, fin]; rfl
@[simp] theorem q_bin {o : Op} : evX gc cf (.bin o a b) false s = (evX gc cf a false s).bind (kBin1 gc cf o b) := by simp only [evX, fin]; rfl
@[simp] theorem q_neg : evX gc cf (.neg a) false s = (evX gc cf a false s).bind kNeg := by simp only [evX, fin]; rfl
@[simp] theorem q_cmp {o : Cp} : evX gc cf (.cmp o a b) false s = (evX gc cf a false s).bind (kCmp1 gc cf o b) := by simp only [evX, fin]; rfl
@[simp] theorem q_chain {o p : Cp} : evX gc cf (.chain o p a b c) false s = (evX gc cf a false s).bind (kChain1 gc cf o p b c) := by simp only [evX, fin]; rfl
@[simp] theorem q_and {md : Bool} : evX gc cf (.and_ a b) md s = (evX gc cf a md s).bind (kAnd gc cf b md) := by simp only [evX]; rfl
@[simp] theorem q_or {md : Bool} : evX gc cf (.or_ a b) md s = (evX gc cf a md s).bind (kOr gc cf b md) := by simp only [evX]; rfl
@[simp] theorem q_not : evX gc cf (.not_ a) true s = (evX gc cf a true s).bind kNot := by simp only [evX]; rfl
@[simp] theorem q_notF : evX gc cf (.not_ a) false s = ((evX gc cf a false s).bind kTruth).bind kNot := by simp only [evX]; rfl
@[simp] theorem q_ite {md : Bool} : evX gc cf (.ite c a b) md s = (evX gc cf c true s).bind (kIte gc cf a b md) := by simp only [evX]; rfl
@[simp] theorem q_idx : evX gc cf (.idx a b) false s = (evX gc cf a false s).bind (kIdx1 gc cf b) := by simp only [evX, fin]; rfl
@[simp] theorem q_stp : evX gc cf (.stp a b c) false s = (evX gc cf a false s).bind (kStp1 gc cf b c) := by simp only [evX, fin]; rfl
@[simp] theorem q_sl : evX gc cf (.sl a b c) false s = (evX gc cf a false s).bind (kSl1 gc cf b c) := by simp only [evX, fin]; rfl
@[simp] theorem q_rev : evX gc cf (.rev a) false s = (evX gc cf a false s).bind kRev := by simp only [evX, fin]; rfl
@[simp] theorem q_call {f : Nat} : evX gc cf (.call f es) false s = (evEs gc cf es s).bind (kCall cf f) := by simp only [evX, fin]; rfl
@[simp] theorem q_callK {f : Nat} {ks : List Ex} : evX gc cf (.callK f es ks) false s = (evEs gc cf es s).bind (kCallK1 gc cf f ks) := by simp only [evX, fin]; rfl
@[simp] theorem q_bi {b : Bi} : evX gc cf (.bi b es) false s = (evEs gc cf es s).bind (kBi b) := by simp only [evX, fin]; rfl
@[simp] theorem q_pop {i : Nat} : evX gc cf (.pop i) false s = kPop i s s.env[i]? := by simp only [evX, fin]; rfl
@[simp] theorem q_callP {f : Nat} {ks : List Ex} {ps : List Nat} : evX gc cf (.callP f es ks ps) false s = (evEs gc cf es s).bind (kCallP1 gc cf f ks ps) := by simp only [evX, fin]; rfl
@[simp] theorem t_callP {f : Nat} {ks : List Ex} {ps : List Nat} : evX gc cf (.callP f es ks ps) true s = (evX gc cf (.callP f es ks ps) false s).bind kTruth := by simp only [evX, fin]; rfl
@[simp] theorem t_mv {i : Nat} : evX gc cf (.mv i) true s = (evX gc cf (.mv i) false s).bind kTruth := by simp only [evX, fin]; rfl
@[simp] theorem q_orV : evX gc cf (.orV a b) false s = (evX gc cf a false s).bind (kOrV1 gc cf b) := by
  simp only [evX]
  refine congrArg (fun f => Rs.bind (evX gc cf a false s) f) (funext fun x => funext fun s1 => ?_)
  unfold kOrV1
  generalize truth (s1.deref x) = o
  rcases o with _ | o
  · rfl
  · cases o <;> rfl
@[simp] theorem q_fld {f : Str} : evX gc cf (.fld a f) false s = (evX gc cf a false s).bind (kFld f) := by
  simp only [evX, fin]
  refine congrArg (fun f => Rs.bind (evX gc cf a false s) f) (funext fun x => funext fun s1 => ?_)
  unfold kFld
  cases s1.deref x <;> try rfl
@[simp] theorem q_isC {f : Str} : evX gc cf (.isC f a) false s = (evX gc cf a false s).bind (kIsC f) := by simp only [evX, fin]; rfl
@[simp] theorem q_make {f : Nat} : evX gc cf (.make f es) false s = (evEs gc cf es s).bind (kCall cf f) := by simp only [evX, fin]; rfl
@[simp] theorem q_dsp : evX gc cf (.dsp es) false s = (evEs gc cf es s).bind kDsp := by simp only [evX, fin]; rfl
@[simp] theorem q_meth {m : Mt} : evX gc cf (.meth m a es) false s = (evX gc cf a false s).bind (kMeth gc cf m es) := by simp only [evX, fin]; rfl
@[simp] theorem q_popAt {i : Nat} : evX gc cf (.popAt i e) false s = kPA gc cf i e s s.env[i]? := by simp only [evX, fin]; rfl
@[simp] theorem t_fld {f : Str} : evX gc cf (.fld a f) true s = (evX gc cf (.fld a f) false s).bind kTruth := by simp only [evX, fin]; rfl
@[simp] theorem t_isC {f : Str} : evX gc cf (.isC f a) true s = (evX gc cf (.isC f a) false s).bind kTruth := by simp only [evX, fin]; rfl
@[simp] theorem t_meth {m : Mt} : evX gc cf (.meth m a es) true s = (evX gc cf (.meth m a es) false s).bind kTruth := by simp only [evX, fin]; rfl
@[simp] theorem t_stp : evX gc cf (.stp a b c) true s = (evX gc cf (.stp a b c) false s).bind kTruth := by simp only [evX, fin]; rfl
@[simp] theorem t_sl : evX gc cf (.sl a b c) true s = (evX gc cf (.sl a b c) false s).bind kTruth := by simp only [evX, fin]; rfl
@[simp] theorem t_pop {i : Nat} : evX gc cf (.pop i) true s = (evX gc cf (.pop i) false s).bind kTruth := by simp only [evX, fin]; rfl
@[simp] theorem q_comp {k : Nat} {tg : Tg} {own : List Nat} : evX gc cf (.comp k e tg es c own) false s = (evEs gc cf es s).bind (kComp gc cf k e tg c own) := by simp only [evX, fin]; rfl
@[simp] theorem q_nil : evEs gc cf [] s = .ok [] s := by simp only [evEs]
@[simp] theorem q_cons : evEs gc cf (e :: es) s = (evX gc cf e false s).bind (kEs1 gc cf es) := by simp only [evEs]; rfl
@[simp] theorem q_snil {bs : List Bool} : evSt gc cf [] bs s = .ok [] s := by simp only [evSt]
@[simp] theorem q_scons {bs : List Bool} : evSt gc cf (e :: es) bs s = (evX gc cf e false s).bind (kSt1 gc cf es bs) := by simp only [evSt]; rfl
@[simp] theorem t_var {i : Nat} : evX gc cf (.var i) true s = (evX gc cf (.var i) false s).bind kTruth := by simp only [evX, fin]; rfl
@[simp] theorem t_gl {i : Nat} : evX gc cf (.gl i) true s = (evX gc cf (.gl i) false s).bind kTruth := by simp only [evX, fin]; rfl
@[simp] theorem t_bl {x : Bool} : evX gc cf (.bl x) true s = (evX gc cf (.bl x) false s).bind kTruth := by simp only [evX, fin]; rfl
@[simp] theorem t_cmp {o : Cp} : evX gc cf (.cmp o a b) true s = (evX gc cf (.cmp o a b) false s).bind kTruth := by simp only [evX, fin]; rfl
@[simp] theorem t_chain {o p : Cp} : evX gc cf (.chain o p a b c) true s = (evX gc cf (.chain o p a b c) false s).bind kTruth := by simp only [evX, fin]; rfl
@[simp] theorem t_idx : evX gc cf (.idx a b) true s = (evX gc cf (.idx a b) false s).bind kTruth := by simp only [evX, fin]; rfl
@[simp] theorem t_call {f : Nat} : evX gc cf (.call f es) true s = (evX gc cf (.call f es) false s).bind kTruth := by simp only [evX, fin]; rfl
@[simp] theorem t_callK {f : Nat} {ks : List Ex} : evX gc cf (.callK f es ks) true s = (evX gc cf (.callK f es ks) false s).bind kTruth := by simp only [evX, fin]; rfl
@[simp] theorem t_bi {b : Bi} : evX gc cf (.bi b es) true s = (evX gc cf (.bi b es) false s).bind kTruth := by simp only [evX, fin]; rfl
@[simp] theorem t_bin {o : Op} : evX gc cf (.bin o a b) true s = (evX gc cf (.bin o a b) false s).bind kTruth := by simp only [evX, fin]; rfl
@[simp] theorem kTruth_bl {x : Bool} : kTruth (.bl x) s = .ok (.bl x) s := rfl
end
section
variable (gc : Nat → Option Tr) (cf : CF) (wf : Nat)
@[simp] noncomputable def kSet (i : Nat) (t : Tr) (s1 : Sta) : Rs Fl := if t.pure && decide (i < s1.env.length) then .ok .next ⟨s1.env.set i (.val t), s1.mem⟩ else .no
@[simp] noncomputable def kOwn (i : Nat) (ts : List Tr) (s1 : Sta) : Rs Fl := if ts.all Tr.pure && decide (ts.length ≤ sizeLine) && decide (i < s1.env.length) then .ok .next ⟨s1.env.set i (.own (.lst ts)), s1.mem⟩ else .no
@[simp] noncomputable def kOwnOf2 (i : Nat) (s1 : Sta) : Option (List Tr) → Rs Fl
  | some l => if i < s1.env.length then .ok .next ⟨s1.env.set i (.own (.lst l)), s1.mem⟩ else .no
  | none => .no
@[simp] noncomputable def kOwnOf (i : Nat) (t : Tr) (s1 : Sta) : Rs Fl := kOwnOf2 i s1 (seqT (s1.deref t))
@[simp] noncomputable def kOwnE (i : Nat) (t : Tr) (s1 : Sta) : Rs Fl := match t with
    | .lst l => if i < s1.env.length then .ok .next ⟨s1.env.set i (.own (.lst l)), s1.mem⟩ else .no
    | _ => .no
@[simp] noncomputable def kDp5 (i : Nat) (ks : List Key) (vs : List Tr) (t : Tr) (s2 : Sta) : Option Key → Rs Fl
  | some k => if t.pure && decide (ks.length < sizeLine) then .ok .next ⟨s2.env.set i (.own (.dk (putV ks vs k t).1 (putV ks vs k t).2)), s2.mem⟩ else .no
  | none => .no
@[simp] noncomputable def kDp6 (i : Nat) (ks : List (List Key)) (vs : List Tr) (t : Tr) (s2 : Sta) : Option (List Key) → Rs Fl
  | some k => if t.pure && decide (ks.length < sizeLine) then .ok .next ⟨s2.env.set i (.own (.dt (putV ks vs k t).1 (putV ks vs k t).2)), s2.mem⟩ else .no
  | none => .no
@[simp] noncomputable def kDp7 (i : Nat) (ks : List NestedKey) (vs : List Tr) (t : Tr) (s2 : Sta) : Option NestedKey → Rs Fl
  | some k => if t.pure && decide (ks.length < sizeLine) then .ok .next ⟨s2.env.set i (.own (.dn (putV ks vs k t).1 (putV ks vs k t).2)), s2.mem⟩ else .no
  | none => .no
@[simp] noncomputable def kDp4 (i : Nat) (t y : Tr) (s2 : Sta) : Option Slot → Rs Fl
  | some (.own (.dk ks vs)) => kDp5 i ks vs t s2 (keyT y)
  | some (.own (.dt ks vs)) => match y with
    | .tup l => kDp6 i ks vs t s2 (keysT l)
    | _ => .no
  | some (.own (.dn ks vs)) => kDp7 i ks vs t s2 (nkey y)
  | _ => .no
@[simp] noncomputable def kDp3 (i : Nat) (t y : Tr) (s2 : Sta) : Rs Fl := kDp4 i t y s2 s2.env[i]?
@[simp] noncomputable def kDp2 (i : Nat) (k : Ex) (t : Tr) (s1 : Sta) : Option Slot → Rs Fl
  | some (.own _) => (evX gc cf k false s1).bind (kDp3 i t)
  | _ => .no
@[simp] noncomputable def kDp1 (i : Nat) (k : Ex) (t : Tr) (s1 : Sta) : Rs Fl := kDp2 gc cf i k t s1 s1.env[i]?
@[simp] noncomputable def kFs3 (f : Str) (n : Nat) (t : Tr) (s2 : Sta) : Option Ob → Rs Fl
  | some (.ins c ns l) => if t.pure && decide (ns.length < 1000) then .ok .next ⟨s2.env, s2.mem.set n (.ins c (setF ns l f t).1 (setF ns l f t).2)⟩ else .no
  | _ => .no
@[simp] noncomputable def kFs2 (f : Str) (t x : Tr) (s2 : Sta) : Rs Fl := match x with
    | .ob n => kFs3 f n t s2 s2.mem[n]?
    | _ => .no
@[simp] noncomputable def kFs1 (o : Ex) (f : Str) (t : Tr) (s1 : Sta) : Rs Fl := (evX gc cf o false s1).bind (kFs2 f t)
@[simp] noncomputable def kSA5 (i : Nat) (l : List Tr) (t : Tr) (s2 : Sta) : Option Nat → Rs Fl
  | some j => if t.pure then .ok .next ⟨s2.env.set i (.own (.lst (l.set j t))), s2.mem⟩ else .no
  | none => .no
@[simp] noncomputable def kSA4 (i : Nat) (t : Tr) (s2 : Sta) : Option Slot → Tr → Rs Fl
  | some (.own (.lst l)), .int z => kSA5 i l t s2 (ixN l.length z)
  | _, _ => .no
@[simp] noncomputable def kSA3 (i : Nat) (t y : Tr) (s2 : Sta) : Rs Fl := kSA4 i t s2 s2.env[i]? y
@[simp] noncomputable def kSA2 (i : Nat) (k : Ex) (t : Tr) (s1 : Sta) : Option Slot → Rs Fl
  | some (.own _) => (evX gc cf k false s1).bind (kSA3 i t)
  | _ => .no
@[simp] noncomputable def kSA1 (i : Nat) (k : Ex) (t : Tr) (s1 : Sta) : Rs Fl := kSA2 gc cf i k t s1 s1.env[i]?
@[simp] noncomputable def kEnv (m : List Ob) : Option (List Slot) → Rs Fl
  | some env => .ok .next ⟨env, m⟩
  | none => .no
@[simp] noncomputable def kMany (is : List (Nat × Nat)) (ts : List Tr) (s1 : Sta) : Rs Fl := if ts.all Tr.pure then kEnv s1.mem (manyGo is ts s1.env) else .no
@[simp] noncomputable def kTgt (tg : Tg) (t : Tr) (s1 : Sta) : Rs Fl := kEnv s1.mem (asg tg t s1.env)
@[simp] noncomputable def kAug2 (i : Nat) (o : Op) (x : Int) (y : Tr) (s1 : Sta) : Rs Fl := match o, y with
      | .add, .int y => .ok .next ⟨s1.env.set i (.val (.int (x + y))), s1.mem⟩
      | .sub, .int y => .ok .next ⟨s1.env.set i (.val (.int (x - y))), s1.mem⟩
      | _, _ => .no
@[simp] noncomputable def kAug (i : Nat) (o : Op) (e : Ex) (s : Sta) : Option Slot → Rs Fl
  | some (.val (.int x)) => (evX gc cf e false s).bind (kAug2 i o x)
  | _ => .no
@[simp] noncomputable def kPut5 (n : Nat) (l : List Tr) (t : Tr) (s3 : Sta) : Option Nat → Rs Fl
  | some j => if t.pure then .ok .next ⟨s3.env, s3.mem.set n (.lst (l.set j t))⟩ else .no
  | none => .no
@[simp] noncomputable def kPut4 (n : Nat) (i : Int) (t : Tr) (s3 : Sta) : Option Ob → Rs Fl
  | some (.lst l) => kPut5 n l t s3 (ixN l.length i)
  | _ => .no
@[simp] noncomputable def kPut3 (t x y : Tr) (s3 : Sta) : Rs Fl := match x, y with
    | .ob n, .int i => kPut4 n i t s3 s3.mem[n]?
    | _, _ => .no
@[simp] noncomputable def kPut2 (k : Ex) (t x : Tr) (s2 : Sta) : Rs Fl := (evX gc cf k false s2).bind (kPut3 t x)
@[simp] noncomputable def kPut1 (o k : Ex) (t : Tr) (s1 : Sta) : Rs Fl := (evX gc cf o false s1).bind (kPut2 gc cf k t)
@[simp] noncomputable def kApp3 (i : Nat) (t : Tr) (s1 : Sta) : Option Slot → Rs Fl
  | some (.own (.lst l)) => if t.pure && decide (l.length < sizeLine) then .ok .next ⟨s1.env.set i (.own (.lst (l ++ [t]))), s1.mem⟩ else .no
  | _ => .no
@[simp] noncomputable def kApp2 (i : Nat) (t : Tr) (s1 : Sta) : Rs Fl := kApp3 i t s1 s1.env[i]?
@[simp] noncomputable def kApp (i : Nat) (e : Ex) (s : Sta) : Option Slot → Rs Fl
  | some (.own (.lst _)) => (evX gc cf e false s).bind (kApp2 i)
  | _ => .no
@[simp] noncomputable def kExt3 (i : Nat) (s1 : Sta) : Option Slot → Tr → Rs Fl
  | some (.own (.lst l)), .lst m => if l.length + m.length ≤ sizeLine then .ok .next ⟨s1.env.set i (.own (.lst (l ++ m))), s1.mem⟩ else .no
  | some (.own (.lst l)), .tup m => if l.length + m.length ≤ sizeLine then .ok .next ⟨s1.env.set i (.own (.lst (l ++ m))), s1.mem⟩ else .no
  | _, _ => .no
@[simp] noncomputable def kExt2 (i : Nat) (t : Tr) (s1 : Sta) : Rs Fl := kExt3 i s1 s1.env[i]? t
@[simp] noncomputable def kExt (i : Nat) (e : Ex) (s : Sta) : Option Slot → Rs Fl
  | some (.own (.lst _)) => (evX gc cf e false s).bind (kExt2 i)
  | _ => .no
@[simp] noncomputable def kEx (_ : Tr) (s1 : Sta) : Rs Fl := .ok .next s1
@[simp] noncomputable def kRet (t : Tr) (s1 : Sta) : Rs Fl := if t.pure then .ok (.ret t) s1 else .no
@[simp] noncomputable def kIf (a b : List Sm) (x : Tr) (s1 : Sta) : Rs Fl := match x with
    | .bl true => exSs gc cf wf a s1
    | .bl false => exSs gc cf wf b s1
    | _ => .no
@[simp] noncomputable def kFor2 (tg : Tg) (b : List Sm) (s1 : Sta) : Option (List Tr) → Rs Fl
  | some xs => forGo tg (exSs gc cf wf b) xs s1
  | none => .no
@[simp] noncomputable def kFor (k : Nat) (tg : Tg) (b : List Sm) (vs : List Tr) (s1 : Sta) : Rs Fl := if vs.all Tr.pure then kFor2 gc cf wf tg b s1 (items k vs) else .no
@[simp] noncomputable def kSeq (xs : List Sm) : Fl → Sta → Rs Fl
  | .next, s1 => exSs gc cf wf xs s1
  | .brk, s1 => .ok .brk s1
  | .cont, s1 => .ok .cont s1
  | .ret t, s1 => .ok (.ret t) s1
end
section
variable {gc : Nat → Option Tr} {cf : CF} {wf : Nat} {s : Sta} {e a b c : Ex} {es : List Ex} {x y : List Sm} {i : Nat}
@[simp] theorem s_set : exS gc cf wf (.set i e) s = (evX gc cf e false s).bind (kSet i) := by simp only [exS]; rfl
@[simp] theorem s_own : exS gc cf wf (.own i es) s = (evEs gc cf es s).bind (kOwn i) := by simp only [exS]; rfl
@[simp] theorem s_ownOf : exS gc cf wf (.ownOf i e) s = (evX gc cf e false s).bind (kOwnOf i) := by simp only [exS]; rfl
@[simp] theorem s_ownE : exS gc cf wf (.ownE i e) s = (evX gc cf e false s).bind (kOwnE i) := by simp only [exS]; rfl
@[simp] theorem s_ownDt : exS gc cf wf (.ownD i true) s = if i < s.env.length then .ok .next ⟨s.env.set i (.own (.dt [] [])), s.mem⟩ else .no := by simp only [exS]; rfl
@[simp] theorem s_ownDf : exS gc cf wf (.ownD i false) s = if i < s.env.length then .ok .next ⟨s.env.set i (.own (.dk [] [])), s.mem⟩ else .no := by simp only [exS]; rfl
@[simp] theorem s_dput : exS gc cf wf (.dput i a b) s = (evX gc cf b false s).bind (kDp1 gc cf i a) := by simp only [exS]; rfl
@[simp] theorem s_fset {f : Str} : exS gc cf wf (.fset a f e) s = (evX gc cf e false s).bind (kFs1 gc cf a f) := by simp only [exS]; rfl
@[simp] theorem s_setAt : exS gc cf wf (.setAt i a b) s = (evX gc cf b false s).bind (kSA1 gc cf i a) := by simp only [exS]; rfl
@[simp] theorem s_many {is : List (Nat × Nat)} : exS gc cf wf (.many is es) s = (evEs gc cf es s).bind (kMany is) := by simp only [exS]; rfl
@[simp] theorem s_tgt {tg : Tg} : exS gc cf wf (.tgt tg e) s = (evX gc cf e false s).bind (kTgt tg) := by simp only [exS]; rfl
@[simp] theorem s_aug {o : Op} : exS gc cf wf (.aug i o e) s = kAug gc cf i o e s s.env[i]? := by simp only [exS]; rfl
@[simp] theorem s_put : exS gc cf wf (.put a b c) s = (evX gc cf c false s).bind (kPut1 gc cf a b) := by simp only [exS]; rfl
@[simp] theorem s_app : exS gc cf wf (.app i e) s = kApp gc cf i e s s.env[i]? := by simp only [exS]; rfl
@[simp] theorem s_ext : exS gc cf wf (.ext i e) s = kExt gc cf i e s s.env[i]? := by simp only [exS]; rfl
@[simp] theorem s_ex : exS gc cf wf (.ex e) s = (evX gc cf e false s).bind kEx := by simp only [exS]; rfl
@[simp] theorem s_ret : exS gc cf wf (.ret e) s = (evX gc cf e false s).bind kRet := by simp only [exS]; rfl
@[simp] theorem s_retN : exS gc cf wf .retN s = .ok (.ret .non) s := by simp only [exS]
@[simp] theorem s_ite : exS gc cf wf (.ite e x y) s = (evX gc cf e true s).bind (kIf gc cf wf x y) := by simp only [exS]; rfl
@[simp] theorem s_for {k : Nat} {tg : Tg} : exS gc cf wf (.forr k tg es x) s = (evEs gc cf es s).bind (kFor gc cf wf k tg x) := by simp only [exS]; rfl
@[simp] theorem s_whl : exS gc cf wf (.whl e x) s = whGo (evX gc cf e true) (exSs gc cf wf x) wf s := by simp only [exS]
@[simp] theorem s_brk : exS gc cf wf .brk s = .ok .brk s := by simp only [exS]
@[simp] theorem s_cont : exS gc cf wf .cont s = .ok .cont s := by simp only [exS]
@[simp] theorem s_pass : exS gc cf wf .pass s = .ok .next s := by simp only [exS]
@[simp] theorem s_nil : exSs gc cf wf [] s = .ok .next s := by simp only [exSs]
@[simp] theorem s_cons {z : Sm} : exSs gc cf wf (z :: x) s = (exS gc cf wf z s).bind (kSeq gc cf wf x) := by
  simp only [exSs]
  congr 1
  funext f s1
  cases f <;> rfl
end
end Ev
/-! Named continuations of the later forms. -/
namespace Ev
open PySem L2
section
variable (gc : Nat → Option Tr) (cf : CF)
@[simp] noncomputable def kCO3 (o : Cp) (y : Tr) (s2 : Sta) : Option Ob → Rs Tr
  | some (.lst l) => Rs.of ((opC2 o (.lst l) (s2.deref y)).map Tr.bl) s2
  | _ => .no
@[simp] noncomputable def kCO2 (o : Cp) (x y : Tr) (s2 : Sta) : Rs Tr := match x with
  | .ob n => kCO3 o y s2 s2.mem[n]?
  | _ => .no
@[simp] noncomputable def kCO1 (o : Cp) (b : Ex) (x : Tr) (s1 : Sta) : Rs Tr := (evX gc cf b false s1).bind (kCO2 o x)
@[simp] noncomputable def kBO3 (b : Bi) (s1 : Sta) : Option Ob → Rs Tr
  | some (.lst l) => Rs.of (biT b [.lst l]) s1
  | _ => .no
@[simp] noncomputable def kBO (b : Bi) (x : Tr) (s1 : Sta) : Rs Tr := match x with
  | .ob n => kBO3 b s1 s1.mem[n]?
  | _ => .no
@[simp] noncomputable def kMc3 (f n : Nat) (ts : List Tr) (s2 : Sta) : Rs Tr := if ts.all Tr.pure then kRes s2 (cf f (.ob n :: ts) s2.mem) else .no
@[simp] noncomputable def kMc2 (c nm : Str) (f : Nat) (es : List Ex) (n : Nat) (s1 : Sta) : Option Ob → Rs Tr
  | some (.ins c' ns _) => if c' = c ∧ nm ∉ ns then (evEs gc cf es s1).bind (kMc3 cf f n) else .no
  | _ => .no
@[simp] noncomputable def kMc (c nm : Str) (f : Nat) (es : List Ex) (x : Tr) (s1 : Sta) : Rs Tr := match x with
  | .ob n => kMc2 gc cf c nm f es n s1 s1.mem[n]?
  | _ => .no
@[simp] noncomputable def kCp3 (elt : Ex) (tg : Tg) (cond : Ex) (own : List Nat) (s1 : Sta) : Option Ob → Rs Tr
  | some (.lst l) => if quiet elt && (isNul cond || quiet cond) then kComp3 s1 (compGo (compF tg (wipeE (s1.env.map Slot.lock) own) (kCond gc cf cond) (kElt gc cf elt)) l s1.mem []) else .no
  | _ => .no
@[simp] noncomputable def kCp (elt : Ex) (tg : Tg) (cond : Ex) (own : List Nat) (x : Tr) (s1 : Sta) : Rs Tr := match x with
  | .ob n => kCp3 gc cf elt tg cond own s1 s1.mem[n]?
  | _ => .no
@[simp] noncomputable def kDN2 (s1 : Sta) : Option (List (List Key) × List Tr) → Rs Tr
  | some (ks, vs) => if ks.Nodup ∧ ks.length ≤ 15 ∧ ks ≠ [] then .ok (.dt ks vs) s1 else .no
  | none => .no
@[simp] noncomputable def kDN (ts : List Tr) (s1 : Sta) : Rs Tr := if ts.all Tr.pure then kDN2 s1 (dspN ts) else .no
@[simp] noncomputable def kIsE2 (s1 : Sta) : Tr → Rs Tr
  | .dk ks _ => .ok (.bl ks.isEmpty) s1
  | .dt ks _ => .ok (.bl ks.isEmpty) s1
  | _ => .no
@[simp] noncomputable def kIsE (x : Tr) (s1 : Sta) : Rs Tr := kIsE2 s1 (s1.deref x)
@[simp] noncomputable def kDc4 (s1 : Sta) : Option (List (List Key) × List Tr) → Rs Tr
  | some r => .ok (.dt r.1 r.2) s1
  | none => .no
@[simp] noncomputable def kDc3 (kx vx : Ex) (tg : Tg) (own : List Nat) (s1 : Sta) : Option Ob → Rs Tr
  | some (.lst l) => if quiet kx && quiet vx then kDc4 s1 (dcGo (dcF tg (wipeE (s1.env.map Slot.lock) own) s1.mem (kElt gc cf kx) (kElt gc cf vx)) l [] []) else .no
  | _ => .no
@[simp] noncomputable def kDc (kx vx : Ex) (tg : Tg) (own : List Nat) (x : Tr) (s1 : Sta) : Rs Tr := match x with
  | .ob n => kDc3 gc cf kx vx tg own s1 s1.mem[n]?
  | _ => .no
end
section
variable {gc : Nat → Option Tr} {cf : CF} {s : Sta} {e a b c : Ex} {es : List Ex}
@[simp] theorem q_cmpO {o : Cp} : evX gc cf (.cmpO o a b) false s = (evX gc cf a false s).bind (kCO1 gc cf o b) := by simp only [evX, fin]; rfl
@[simp] theorem q_biO {o : Bi} : evX gc cf (.biO o a) false s = (evX gc cf a false s).bind (kBO o) := by simp only [evX, fin]; rfl
@[simp] theorem q_mcall {c m : Str} {f : Nat} : evX gc cf (.mcall c m f a es) false s = (evX gc cf a false s).bind (kMc gc cf c m f es) := by simp only [evX, fin]; rfl
@[simp] theorem q_compO {tg : Tg} {own : List Nat} : evX gc cf (.compO e tg a c own) false s = (evX gc cf a false s).bind (kCp gc cf e tg c own) := by simp only [evX, fin]; rfl
@[simp] theorem q_dspN : evX gc cf (.dspN es) false s = (evEs gc cf es s).bind kDN := by simp only [evX, fin]; rfl
@[simp] theorem q_isE : evX gc cf (.isE a) false s = (evX gc cf a false s).bind kIsE := by
  simp only [evX, fin]
  refine congrArg (fun f => Rs.bind (evX gc cf a false s) f) (funext fun x => funext fun s1 => ?_)
  unfold kIsE
  cases s1.deref x <;> rfl
@[simp] theorem q_dcomp {tg : Tg} {own : List Nat} : evX gc cf (.dcomp a b tg e own) false s = (evX gc cf e false s).bind (kDc gc cf a b tg own) := by simp only [evX, fin]; rfl
@[simp] theorem t_cmpO {o : Cp} : evX gc cf (.cmpO o a b) true s = (evX gc cf (.cmpO o a b) false s).bind kTruth := by simp only [evX, fin]; rfl
@[simp] theorem t_biO {o : Bi} : evX gc cf (.biO o a) true s = (evX gc cf (.biO o a) false s).bind kTruth := by simp only [evX, fin]; rfl
@[simp] theorem t_mcall {c m : Str} {f : Nat} : evX gc cf (.mcall c m f a es) true s = (evX gc cf (.mcall c m f a es) false s).bind kTruth := by simp only [evX, fin]; rfl
@[simp] theorem t_compO {tg : Tg} {own : List Nat} : evX gc cf (.compO e tg a c own) true s = (evX gc cf (.compO e tg a c own) false s).bind kTruth := by simp only [evX, fin]; rfl
@[simp] theorem t_isE : evX gc cf (.isE a) true s = (evX gc cf (.isE a) false s).bind kTruth := by
  have q := q_isE (gc := gc) (cf := cf) (a := a) (s := s)
  simp only [evX, fin] at q ⊢
  rw [q]
  rfl
end
section
variable {gc : Nat → Option Tr} {cf : CF} {wf : Nat} {s : Sta} {e a : Ex}
@[simp] noncomputable def kAO3 (n : Nat) (t : Tr) (s2 : Sta) : Option Ob → Rs Fl
  | some (.lst l) => if t.pure && decide (l.length < sizeLine) then .ok .next ⟨s2.env, s2.mem.set n (.lst (l ++ [t]))⟩ else .no
  | _ => .no
@[simp] noncomputable def kAO2 (n : Nat) (t : Tr) (s2 : Sta) : Rs Fl := kAO3 n t s2 s2.mem[n]?
@[simp] noncomputable def kAO1 (gc : Nat → Option Tr) (cf : CF) (e : Ex) (n : Nat) (s1 : Sta) : Option Ob → Rs Fl
  | some (.lst _) => (evX gc cf e false s1).bind (kAO2 n)
  | _ => .no
@[simp] noncomputable def kAO (gc : Nat → Option Tr) (cf : CF) (e : Ex) (x : Tr) (s1 : Sta) : Rs Fl := match x with
  | .ob n => kAO1 gc cf e n s1 s1.mem[n]?
  | _ => .no
@[simp] theorem s_appO : exS gc cf wf (.appO a e) s = (evX gc cf a false s).bind (kAO gc cf e) := by simp only [exS]; rfl
end
section
variable {gc : Nat → Option Tr} {cf : CF} {s : Sta} {a b : Ex}
@[simp] noncomputable def kPr3 (s1 : Sta) : Option (Tr × List Ob) → Rs Tr
  | some (t, m) => .ok t ⟨s1.env, m⟩
  | none => .no
@[simp] noncomputable def kPr (cf : CF) (c : Str) (f : Nat) (x : Tr) (s1 : Sta) : Rs Tr := match x with
  | .ins c' ns l => if c' = c then kPr3 s1 (cf f [.ins c' ns l] s1.mem) else .no
  | _ => .no
@[simp] noncomputable def kEv3 (s2 : Sta) : Option (Tr × List Ob) → Rs Tr
  | some (.bl r, m) => .ok (.bl r) ⟨s2.env, m⟩
  | _ => .no
@[simp] noncomputable def kEv2 (cf : CF) (c : Str) (f : Nat) (x : Tr) (y : Tr) (s2 : Sta) : Rs Tr := match x with
  | .ins c1 n1 l1 => match y with
    | .ins c2 n2 l2 => if c1 = c ∧ c2 = c then kEv3 s2 (cf f [.ins c1 n1 l1, .ins c2 n2 l2] s2.mem) else .no
    | _ => .no
  | _ => .no
@[simp] noncomputable def kEv1 (gc : Nat → Option Tr) (cf : CF) (c : Str) (f : Nat) (b : Ex) (x : Tr) (s1 : Sta) : Rs Tr := (evX gc cf b false s1).bind (kEv2 cf c f x)
@[simp] theorem q_prop {c m : Str} {f : Nat} : evX gc cf (.prop c m f a) false s = (evX gc cf a false s).bind (kPr cf c f) := by
  simp only [evX, fin]
  refine congrArg (fun f => Rs.bind (evX gc cf a false s) f) (funext fun x => funext fun s1 => ?_)
  cases x <;> rfl
@[simp] theorem t_prop {c m : Str} {f : Nat} : evX gc cf (.prop c m f a) true s = (evX gc cf (.prop c m f a) false s).bind kTruth := by simp only [evX, fin]; rfl
@[simp] theorem q_eqV {c : Str} {f : Nat} : evX gc cf (.eqV c f a b) false s = (evX gc cf a false s).bind (kEv1 gc cf c f b) := by
  simp only [evX, fin]
  refine congrArg (fun f => Rs.bind (evX gc cf a false s) f) (funext fun x => funext fun s1 => ?_)
  unfold kEv1
  refine congrArg (fun f => Rs.bind (evX gc cf b false s1) f) (funext fun y => funext fun s2 => ?_)
  cases x <;> first | rfl | (cases y <;> rfl)
@[simp] theorem t_eqV {c : Str} {f : Nat} : evX gc cf (.eqV c f a b) true s = (evX gc cf (.eqV c f a b) false s).bind kTruth := by simp only [evX, fin]; rfl
end
end Ev
/-! repr gives a text. -/
namespace Ev
open PySem
mutual
noncomputable def sh : Nat → Tr → Option Nat
  | _, .int i => if i.natAbs.log2 < 1920 then some 1921 else none
  | _, .str z => some (reprText z).length
  | _, .non => some 4
  | _, .bl _ => some 5
  | 0, _ => none
  | n + 1, .tup l => match shs n l with
    | some k => some (k + 3)
    | none => none
  | n + 1, .lst l => match shs n l with
    | some k => some (k + 3)
    | none => none
  | _, _ => none
noncomputable def shs : Nat → List Tr → Option Nat
  | _, [] => some 0
  | n, t :: l => match sh n t, shs n l with
    | some a, some b => some (a + b + 2)
    | _, _ => none
end
theorem tupleText_le (ts : List Str) : (tupleText ts).length ≤ piled ts + 3 := by
  unfold tupleText
  have e : ∀ a b : Str, (a ++ b).length = a.length + b.length := fun a b => strLen_append a b
  rw [e, e]
  have h1 : (("(" : String) : Str).length = 1 := rfl
  have h2 : (((if ts.length == 1 then ",)" else ")" : String) : Str)).length ≤ 2 := by
    split <;> decide +kernel
  have h3 : (Str.join ", " ts).length ≤ piled ts := by
    cases ts with
    | nil => exact Nat.zero_le _
    | cons a r => have := join_length_add (a :: r) (by simp); omega
  have h4 : (("(" : Str)).length = 1 := rfl
  omega
theorem listText_le (ts : List Str) : (listText ts).length ≤ piled ts + 3 := by
  have key : ∀ (ts : List Str) (k : Nat) (acc : Str), (textFrom k acc ts).length ≤ acc.length + piled ts := by
    intro ts
    induction ts with
    | nil => intro k acc; exact Nat.le_add_right _ _
    | cons t r ih =>
      intro k acc
      have h := ih (k + 1) (acc ++ (if k > 0 then ", " else "" : String) ++ t)
      have e : (acc ++ (if k > 0 then ", " else "" : String) ++ t).length = acc.length + (if k > 0 then 2 else 0) + t.length := by
        rw [strLen_append, strLen_append]
        congr 2
        split <;> rfl
      rw [piled_cons]
      show (textFrom (k + 1) (acc ++ (if k > 0 then ", " else "" : String) ++ t) r).length ≤ _
      have e2 : (if k > 0 then 2 else 0) ≤ 2 := by split <;> omega
      omega
  unfold listText
  rw [strLen_append]
  have h := key ts 0 "["
  have h1 : (("[" : String) : Str).length = 1 := rfl
  have h2 : (("]" : String) : Str).length = 1 := rfl
  omega
mutual
theorem sh_ok : ∀ (n : Nat) (t : Tr) (k : Nat), sh n t = some k → ∃ d, t.data = some d ∧ d.showable = true ∧ d.shown.length ≤ k ∧ d.depth ≤ n
  | n, .int i, k, h => by
    have h' : (if i.natAbs.log2 < 1920 then some 1921 else none) = some k := by cases n <;> simpa only [sh] using h
    split at h'
    · rename_i hi
      cases h'
      exact ⟨.int i, by simp only [Tr.data], by simpa [PyData.showable] using hi, by simp only [PyData.shown]; exact PyProof.Rows.int_text_len_1921 hi, by simp [PyData.depth]⟩
    · cases h'
  | n, .str z, k, h => by
    have h' : some (reprText z).length = some k := by cases n <;> simpa only [sh] using h
    cases h'
    exact ⟨.str z, by simp only [Tr.data], by simp [PyData.showable], by simp only [PyData.shown]; exact Nat.le_refl _, by simp [PyData.depth]⟩
  | 0, .tup l, k, h => by simp [sh] at h
  | n + 1, .tup l, k, h => by
    simp only [sh] at h
    cases e : shs n l with
    | none => rw [e] at h; cases h
    | some j =>
      rw [e] at h
      cases h
      obtain ⟨ds, h1, h2, h3, h4⟩ := shs_ok n l j e
      refine ⟨.tuple ds, by simp only [Tr.data, h1], by simpa only [PyData.showable] using h2, ?_, by simp only [PyData.depth]; omega⟩
      simp only [PyData.shown]
      exact Nat.le_trans (tupleText_le _) (by omega)
  | n, .non, k, h => by
    have h' : some 4 = some k := by cases n <;> simpa only [sh] using h
    cases h'
    exact ⟨.none, by simp only [Tr.data], by simp [PyData.showable], by simp only [PyData.shown]; decide +kernel, by simp [PyData.depth]⟩
  | n, .bl b, k, h => by
    have h' : some 5 = some k := by cases n <;> simpa only [sh] using h
    cases h'
    exact ⟨.bool b, by simp only [Tr.data], by simp [PyData.showable], by simp only [PyData.shown]; cases b <;> decide +kernel, by simp [PyData.depth]⟩
  | n, .dk _ _, k, h => by cases n <;> simp [sh] at h
  | n, .dt _ _, k, h => by cases n <;> simp [sh] at h
  | n, .dn _ _, k, h => by cases n <;> simp [sh] at h
  | n, .ins _ _ _, k, h => by cases n <;> simp [sh] at h
  | 0, .lst l, k, h => by simp [sh] at h
  | n + 1, .lst l, k, h => by
    simp only [sh] at h
    cases e : shs n l with
    | none => rw [e] at h; cases h
    | some j =>
      rw [e] at h
      cases h
      obtain ⟨ds, h1, h2, h3, h4⟩ := shs_ok n l j e
      refine ⟨.list ds, by simp only [Tr.data, h1], by simpa only [PyData.showable] using h2, ?_, by simp only [PyData.depth]; omega⟩
      simp only [PyData.shown]
      exact Nat.le_trans (listText_le _) (by omega)
  | n, .flst l, k, h => by cases n <;> simp [sh] at h
  | n, .ob b, k, h => by cases n <;> simp [sh] at h
  | n, .bor b, k, h => by cases n <;> simp [sh] at h
theorem shs_ok : ∀ (n : Nat) (l : List Tr) (k : Nat), shs n l = some k → ∃ ds, datas l = some ds ∧ PyData.showableAll ds = true ∧ piled (PyData.shownAll ds) ≤ k ∧ PyData.depthAll ds ≤ n
  | n, [], k, h => by
    simp only [shs] at h
    cases h
    exact ⟨[], by simp only [datas], by simp only [PyData.showableAll], by simp [PyData.shownAll, piled], by simp [PyData.depthAll]⟩
  | n, t :: l, k, h => by
    simp only [shs] at h
    cases e1 : sh n t with
    | none => rw [e1] at h; cases h
    | some a =>
      cases e2 : shs n l with
      | none => rw [e1, e2] at h; cases h
      | some b =>
        rw [e1, e2] at h
        cases h
        obtain ⟨d, h1, h2, h3, h4⟩ := sh_ok n t a e1
        obtain ⟨ds, h5, h6, h7, h8⟩ := shs_ok n l b e2
        refine ⟨d :: ds, by simp only [datas, h1, h5], by simp only [PyData.showableAll, h2, h6]; rfl, ?_, by simp only [PyData.depthAll]; omega⟩
        simp only [PyData.shownAll]
        have : piled (d.shown :: PyData.shownAll ds) = d.shown.length + 2 + piled (PyData.shownAll ds) := by simp [piled]
        omega
end
theorem repr_of {n k : Nat} {t : Tr} (h : sh n t = some k) (hn : n ≤ 64) (hk : k ≤ 16777216) : ∃ z, reprT t = some (.str z) := by
  obtain ⟨d, h1, h2, h3, h4⟩ := sh_ok n t k h
  refine ⟨d.shown, ?_⟩
  unfold reprT
  rw [h1]
  dsimp only
  rw [if_pos]
  have a1 : decide (d.shown.length ≤ sizeLine) = true := decide_eq_true (by rw [Ev.sizeLine_eq]; omega)
  have a2 : decide (d.depth ≤ 64) = true := decide_eq_true (by omega)
  rw [h2, a1, a2]
  rfl
end Ev
/-! The functions of the text, in the own language. -/
namespace G
open Ev PySem
noncomputable def pc_pot0 : Int := 1065
noncomputable def pc_pot1 : Int := 1439
noncomputable def pc_pot2 : Int := 595
noncomputable def pc_pot3 : Int := 85719
noncomputable def pc_pot4 : Int := 10033
noncomputable def pc_take0 : Int := 261
noncomputable def pc_take1 : Int := 1219
noncomputable def pc_take2 : Int := 10887
noncomputable def pc_take3 : Int := 429
noncomputable def pc_take4 : Int := 100285
noncomputable def g_FEED : Nat := 0
noncomputable def g_BLANK : Nat := 1
noncomputable def g_FIGURES : Nat := 2
noncomputable def g_PAIR : Nat := 3
noncomputable def g_MINUS : Nat := 4
noncomputable def g_FIGURES_2 : Nat := 5
noncomputable def g_LEAST_FIGURES : Nat := 6
noncomputable def g_MOST_FIGURES : Nat := 7
noncomputable def g_SIDES : Nat := 8
noncomputable def g_ROW : Nat := 9
noncomputable def g_ROW_WORDS : Nat := 10
noncomputable def g_END : Nat := 11
noncomputable def g_RIGHT : Nat := 12
noncomputable def g_PAIRq1 : Nat := 20
noncomputable def g_TRIPLE : Nat := 21
noncomputable def g_FEEDq1 : Nat := 54
noncomputable def g_BLANKq1 : Nat := 55
noncomputable def g_FEEDq2 : Nat := 56
noncomputable def g_MARKS : Nat := 57
noncomputable def g_LEAST_MARKS : Nat := 58
noncomputable def g_MOST_MARKS : Nat := 59
noncomputable def g_STATES : Nat := 60
noncomputable def g_MOST_STATES : Nat := 61
noncomputable def g_LEFT : Nat := 62
noncomputable def g_ROW_WORDS_2 : Nat := 63
noncomputable def g_END_2 : Nat := 64
noncomputable def g_ROWq1 : Nat := 65
noncomputable def g_BLANKq2 : Nat := 66
noncomputable def g_RIGHTq1 : Nat := 67
noncomputable def n_law_cells : Nat := 0
noncomputable def n_law_take : Nat := 1
noncomputable def n_law_of : Nat := 2
noncomputable def n_law_told_strip_2 : Nat := 302
noncomputable def n_law_drawn_strip_2 : Nat := 303
noncomputable def n_law_any_strip_2 : Nat := 315
noncomputable def n_law_led_machine : Nat := 281
noncomputable def n_law_strip_text : Nat := 258
noncomputable def n_Lines_2 : Nat := 305
noncomputable def n_whole_in : Nat := 5
noncomputable def n_integer_in : Nat := 6
noncomputable def n_Lines_number : Nat := 306
noncomputable def n_Lines_takes_row : Nat := 307
noncomputable def n_Lines_takes : Nat := 308
noncomputable def n_lines_in_2 : Nat := 309
noncomputable def n_Strip_2 : Nat := 310
noncomputable def n_law_some : Nat := 3
noncomputable def n_check_strip : Nat := 260
noncomputable def n_figures_in_3 : Nat := 316
noncomputable def n_row_in_2 : Nat := 317
noncomputable def n_told_by_3 : Nat := 318
noncomputable def n_Machine_3 : Nat := 319
noncomputable def n_figures_of : Nat := 284
noncomputable def n_row_texts_2 : Nat := 320
noncomputable def n_led_text_2 : Nat := 321
noncomputable def n_led_2 : Nat := 322
noncomputable def n_Machine_eq : Nat := 364
noncomputable def n_law_machine_text : Nat := 11
noncomputable def n_Machine_text : Nat := 365
noncomputable def n_Machine_figures : Nat := 366
noncomputable def n_Machine_rows : Nat := 367
noncomputable def n_law_base : Nat := 288
noncomputable def n_law_right_25 : Nat := 368
noncomputable def n_law_pot : Nat := 33
noncomputable def n_law_25 : Nat := 369
/-! law_cells = _law_cells(script, limit): 0=script 1=limit -/
noncomputable def b_law_cells : List Sm := [
  .ret (.bi .listRg [.bi .max2 [.int 1, .bi .min2 [.var 1, .bi .len [.var 0]]]])]
noncomputable def f_law_cells : Fn := ⟨2, 2, b_law_cells, none, false⟩
/-! law_take = _law_take(pot, upto): 0=pot 1=upto 2=digit 3=prime 4=blend -/
noncomputable def b_law_take : List Sm := [
  .ite (.cmp .gt (.idx (.var 0) (.int 0)) (.int 0)) [.set 2 (.bin .mod (.bi .int [.idx (.var 0) (.int 0)]) (.var 1)), .put (.var 0) (.int 0) (.bin .fdiv (.idx (.var 0) (.int 0)) (.var 1)), .ret (.var 2)] [],
  .put (.var 0) (.int 2) (.bin .add (.idx (.var 0) (.int 2)) (.int 1)),
  .set 3 (.idx (.lst [.int 2147483647, .int 2147483629, .int 2147483587, .int 2147483579, .int 2147483563]) (.bin .mod (.bi .int [.idx (.var 0) (.int 2)]) (.int 5))),
  .set 4 (.bin .mod (.bi .int [.bin .pow (.bi .int [.bin .add (.bin .add (.idx (.var 0) (.int 1)) (.bin .mul (.bin .mul (.int pc_take4) (.idx (.var 0) (.int 2))) (.idx (.var 0) (.int 2)))) (.int pc_take1)]) (.int 3)]) (.var 3)),
  .ret (.bin .mod (.bi .int [.bin .fdiv (.bin .mul (.var 4) (.bin .add (.bin .mod (.bi .int [.var 4]) (.int pc_take2)) (.bin .mul (.int pc_take3) (.idx (.var 0) (.int 2))))) (.int pc_take0)]) (.var 1))]
noncomputable def f_law_take : Fn := ⟨2, 5, b_law_take, none, false⟩
/-! law_of = _law_of(pot, some): 0=pot 1=some -/
noncomputable def b_law_of : List Sm := [
  .ret (.idx (.var 1) (.call n_law_take [.var 0, .bi .len [.var 1]]))]
noncomputable def f_law_of : Fn := ⟨2, 2, b_law_of, none, false⟩
/-! law_told_strip_2 = _law_told_strip(pot): 0=pot -/
noncomputable def b_law_told_strip_2 : List Sm := [
  .ret (.call n_law_of [.var 0, .lst [.dsp [.str "marks", .int 2, .str "states", .int 1, .str "rows", .dspN [.tup [.int 0, .int 1], .tup [.int 0, .str "right", .int 0], .tup [.int 0, .int 0], .tup [.int 0, .str "left", .int 1]]], .dsp [.str "marks", .int 2, .str "states", .int 2, .str "rows", .dspN [.tup [.int 0, .int 1], .tup [.int 1, .str "right", .int 0], .tup [.int 0, .int 0], .tup [.int 0, .str "left", .int 1], .tup [.int 1, .int 1], .tup [.int 0, .str "left", .int 1], .tup [.int 1, .int 0], .tup [.int 0, .str "right", .int 2]]], .dsp [.str "marks", .int 3, .str "states", .int 2, .str "rows", .dspN [.tup [.int 0, .int 1], .tup [.int 2, .str "right", .int 0], .tup [.int 0, .int 2], .tup [.int 1, .str "right", .int 0], .tup [.int 0, .int 0], .tup [.int 0, .str "left", .int 1], .tup [.int 1, .int 1], .tup [.int 0, .str "left", .int 1], .tup [.int 1, .int 2], .tup [.int 0, .str "left", .int 1], .tup [.int 1, .int 0], .tup [.int 0, .str "right", .int 2]]]]])]
noncomputable def f_law_told_strip_2 : Fn := ⟨1, 1, b_law_told_strip_2, none, false⟩
/-! law_drawn_strip_2 = _law_drawn_strip(pot): 0=pot 1=marks 2=states 3=rows 4=state 5=mark 6=goal -/
noncomputable def l_law_drawn_strip_2_0 : List Sm := [.ite (.cmp .gt (.call n_law_take [.var 0, .int 5]) (.int 0)) [.set 6 (.call n_law_of [.var 0, .bin .add (.bi .listRg [.var 2]) (.lst [.var 2])]), .dput 3 (.tup [.var 4, .var 5]) (.tup [.call n_law_take [.var 0, .var 1], .call n_law_of [.var 0, .lst [.str "left", .str "right"]], .var 6])] []]
noncomputable def l_law_drawn_strip_2_1 : List Sm := [.forr 1 (.nm 5) [.var 1] l_law_drawn_strip_2_0]
noncomputable def b_law_drawn_strip_2 : List Sm := [
  .many [(1, 0), (2, 0), (3, 3)] [.bin .add (.int 2) (.call n_law_take [.var 0, .int 2]), .bin .add (.int 1) (.call n_law_take [.var 0, .int 3]), .dsp []],
  .forr 1 (.nm 4) [.var 2] l_law_drawn_strip_2_1,
  .ite (.isE (.var 3)) [.dput 3 (.tup [.int 0, .int 0]) (.tup [.int 0, .str "right", .var 2])] [],
  .ret (.dsp [.str "marks", .var 1, .str "states", .var 2, .str "rows", .mv 3])]
noncomputable def f_law_drawn_strip_2 : Fn := ⟨1, 7, b_law_drawn_strip_2, none, false⟩
/-! law_any_strip_2 = _law_any_strip(pot): 0=pot -/
noncomputable def b_law_any_strip_2 : List Sm := [
  .ret (.ite (.cmp .eq (.call n_law_take [.var 0, .int 3]) (.int 0)) (.call n_law_told_strip_2 [.var 0]) (.call n_law_drawn_strip_2 [.var 0]))]
noncomputable def f_law_any_strip_2 : Fn := ⟨1, 1, b_law_any_strip_2, none, false⟩
/-! law_led_machine = _law_led_machine(strip): 0=strip 1=marks 2=states 3=rows 4=m 5=state 6=mark 7=other 8=side 9=goal 10=figure -/
noncomputable def l_law_led_machine_0 : List Sm := [.tgt (.tp [.nm 7, .nm 8, .nm 9]) (.idx (.idx (.var 0) (.str "rows")) (.tup [.var 5, .var 6])), .set 10 (.bin .add (.bin .add (.bin .mul (.var 7) (.var 4)) (.var 1)) (.var 9)), .ext 3 (.lst [.tup [.bin .add (.var 1) (.var 5), .var 6, .var 10, .var 8], .tup [.var 6, .bin .add (.var 1) (.var 5), .var 10, .var 8]])]
noncomputable def b_law_led_machine : List Sm := [
  .many [(1, 0), (2, 0), (3, 1)] [.idx (.var 0) (.str "marks"), .idx (.var 0) (.str "states"), .lst []],
  .set 4 (.bin .add (.bin .add (.var 1) (.var 2)) (.int 1)),
  .forr 0 (.tp [.nm 5, .nm 6]) [.bi .sorted [.idx (.var 0) (.str "rows")]] l_law_led_machine_0,
  .ret (.dsp [.str "m", .var 4, .str "rows", .bin .add (.var 3) (.lst [.tup [.bin .add (.var 1) (.var 2), .int 0, .int 0, .str "right"], .tup [.int 0, .bin .add (.var 1) (.var 2), .int 0, .str "right"]])])]
noncomputable def f_law_led_machine : Fn := ⟨1, 11, b_law_led_machine, none, false⟩
/-! law_strip_text = _law_strip_text(strip): 0=strip 1=rows 2=state 3=mark 4=other 5=side 6=goal 7=told -/
noncomputable def l_law_strip_text_0 : List Sm := [.tgt (.tp [.nm 4, .nm 5, .nm 6]) (.idx (.idx (.var 0) (.str "rows")) (.tup [.var 2, .var 3])), .set 7 (.ite (.cmp .eq (.var 6) (.idx (.var 0) (.str "states"))) (.str "end") (.bi .strOf [.bi .int [.var 6]])), .app 1 (.meth .join (.str " ") [.lst [.str "row", .bi .strOf [.bi .int [.var 2]], .bi .strOf [.bi .int [.var 3]], .bi .strOf [.bi .int [.var 4]], .var 5, .var 7]])]
noncomputable def b_law_strip_text : List Sm := [
  .own 1 [.bin .add (.str "marks ") (.bi .strOf [.bi .int [.idx (.var 0) (.str "marks")]]), .bin .add (.str "states ") (.bi .strOf [.bi .int [.idx (.var 0) (.str "states")]])],
  .forr 0 (.tp [.nm 2, .nm 3]) [.bi .sorted [.idx (.var 0) (.str "rows")]] l_law_strip_text_0,
  .ret (.meth .join (.str "\n") [.var 1])]
noncomputable def f_law_strip_text : Fn := ⟨1, 8, b_law_strip_text, none, false⟩
/-! Lines_2 = Lines.__init__(self): 0=self -/
noncomputable def b_Lines_2 : List Sm := [
  .fset (.var 0) "own_marks" .non,
  .fset (.var 0) "own_states" .non,
  .fset (.var 0) "own_rows" (.shd [])]
noncomputable def f_Lines_2 : Fn := ⟨1, 1, b_Lines_2, some "Lines", true⟩
/-! whole_in = whole_in(word): 0=word 1=figures 2=sign 3=found -/
noncomputable def e_whole_in_0 : Ex := .cmp .inn (.var 2) (.gl g_FIGURES_2)
noncomputable def l_whole_in_1 : List Sm := [.set 3 (.bin .add (.bin .mul (.int 10) (.var 3)) (.meth .index (.gl g_FIGURES_2) [.var 2]))]
noncomputable def b_whole_in : List Sm := [
  .set 1 (.ite (.cmp .eq (.sl (.var 0) .nul (.int 1)) (.gl g_MINUS)) (.sl (.var 0) (.int 1) .nul) (.var 0)),
  .ite (.or_ (.cmp .eq (.var 1) (.str "")) (.not_ (.bi .all [.comp 0 e_whole_in_0 (.nm 2) [.var 1] .nul [2]]))) [.ret .non] [],
  .ite (.and_ (.cmp .eq (.idx (.var 1) (.int 0)) (.idx (.gl g_FIGURES_2) (.int 0))) (.cmp .ne (.var 0) (.idx (.gl g_FIGURES_2) (.int 0)))) [.ret .non] [],
  .set 3 (.int 0),
  .forr 0 (.nm 2) [.var 1] l_whole_in_1,
  .ret (.ite (.cmp .eq (.var 1) (.var 0)) (.var 3) (.neg (.var 3)))]
noncomputable def f_whole_in : Fn := ⟨1, 4, b_whole_in, none, false⟩
/-! integer_in = integer_in(word, low, high): 0=word 1=low 2=high 3=number -/
noncomputable def b_integer_in : List Sm := [
  .set 3 (.call n_whole_in [.var 0]),
  .ret (.ite (.and_ (.cmp .notN (.var 3) .non) (.chain .le .le (.var 1) (.var 3) (.var 2))) (.var 3) .non)]
noncomputable def f_integer_in : Fn := ⟨3, 4, b_integer_in, none, false⟩
/-! Lines_number = Lines.number(self, words, head, low, high): 0=self 1=words 2=head 3=low 4=high -/
noncomputable def b_Lines_number : List Sm := [
  .ite (.or_ (.cmp .ne (.bi .len [.var 1]) (.gl g_PAIR)) (.cmp .ne (.idx (.var 1) (.int 0)) (.var 2))) [.ret .non] [],
  .ret (.call n_integer_in [.idx (.var 1) (.int 1), .var 3, .var 4])]
noncomputable def f_Lines_number : Fn := ⟨5, 5, b_Lines_number, none, false⟩
/-! Lines_takes_row = Lines.takes_row(self, words): 0=self 1=words 2=state 3=mark 4=written 5=later 6=row -/
noncomputable def e_Lines_takes_row_0 : Ex := .cmp .eq (.sl (.var 6) .nul (.gl g_PAIR)) (.tup [.var 2, .var 3])
noncomputable def b_Lines_takes_row : List Sm := [
  .ite (.or_ (.cmp .ne (.bi .len [.var 1]) (.gl g_ROW_WORDS_2)) (.or_ (.cmp .ne (.idx (.var 1) (.int 0)) (.gl g_ROW)) (.cmp .nin (.idx (.var 1) (.int 4)) (.tup [.gl g_RIGHT, .gl g_LEFT])))) [.ret (.bl false)] [],
  .set 2 (.call n_integer_in [.idx (.var 1) (.int 1), .int 0, .bin .sub (.fld (.var 0) "own_states") (.int 1)]),
  .set 3 (.call n_integer_in [.idx (.var 1) (.gl g_PAIR), .int 0, .bin .sub (.fld (.var 0) "own_marks") (.int 1)]),
  .set 4 (.call n_integer_in [.idx (.var 1) (.gl g_TRIPLE), .int 0, .bin .sub (.fld (.var 0) "own_marks") (.int 1)]),
  .set 5 (.ite (.cmp .eq (.idx (.var 1) (.neg (.int 1))) (.gl g_END_2)) (.fld (.var 0) "own_states") (.call n_integer_in [.idx (.var 1) (.neg (.int 1)), .int 0, .bin .sub (.fld (.var 0) "own_states") (.int 1)])),
  .ite (.or_ (.cmp .isN (.var 2) .non) (.or_ (.cmp .isN (.var 3) .non) (.or_ (.cmp .isN (.var 4) .non) (.cmp .isN (.var 5) .non)))) [.ret (.bl false)] [],
  .ite (.bi .any [.compO e_Lines_takes_row_0 (.nm 6) (.fld (.var 0) "own_rows") .nul [6]]) [.ret (.bl false)] [],
  .appO (.fld (.var 0) "own_rows") (.tup [.var 2, .var 3, .var 4, .idx (.var 1) (.int 4), .var 5]),
  .ret (.bl true)]
noncomputable def f_Lines_takes_row : Fn := ⟨2, 7, b_Lines_takes_row, none, false⟩
/-! Lines_takes = Lines.takes(self, line): 0=self 1=line 2=words -/
noncomputable def b_Lines_takes : List Sm := [
  .set 2 (.meth .split (.var 1) [.gl g_BLANK]),
  .ite (.cmp .isN (.fld (.var 0) "own_marks") .non) [.fset (.var 0) "own_marks" (.mcall "Lines" "number" n_Lines_number (.var 0) [.var 2, .gl g_MARKS, .gl g_LEAST_MARKS, .gl g_MOST_MARKS]), .ret (.cmp .notN (.fld (.var 0) "own_marks") .non)] [],
  .ite (.cmp .isN (.fld (.var 0) "own_states") .non) [.fset (.var 0) "own_states" (.mcall "Lines" "number" n_Lines_number (.var 0) [.var 2, .gl g_STATES, .int 1, .gl g_MOST_STATES]), .ret (.cmp .notN (.fld (.var 0) "own_states") .non)] [],
  .ret (.mcall "Lines" "takes_row" n_Lines_takes_row (.var 0) [.var 2])]
noncomputable def f_Lines_takes : Fn := ⟨2, 3, b_Lines_takes, none, false⟩
/-! lines_in_2 = lines_in(text): 0=text 1=found 2=many 3=line -/
noncomputable def l_lines_in_2_0 : List Sm := [.aug 2 .add (.int 1), .ite (.not_ (.mcall "Lines" "takes" n_Lines_takes (.var 1) [.var 3])) [.bad] []]
noncomputable def b_lines_in_2 : List Sm := [
  .ite (.not_ (.bi .isStr [.var 0])) [.bad] [],
  .many [(1, 0), (2, 0)] [.make n_Lines_2 [], .int 0],
  .forr 0 (.nm 3) [.meth .split (.var 0) [.gl g_FEED]] l_lines_in_2_0,
  .ite (.cmpO .eq (.fld (.var 1) "own_rows") (.lst [])) [.bad] [],
  .ret (.var 1)]
noncomputable def f_lines_in_2 : Fn := ⟨1, 4, b_lines_in_2, none, false⟩
/-! Strip_2 = Strip.__init__(self, text): 0=self 1=text 2=lines 3=row -/
noncomputable def b_Strip_2 : List Sm := [
  .set 2 (.call n_lines_in_2 [.var 1]),
  .fset (.var 0) "own_text" (.var 1),
  .fset (.var 0) "own_marks" (.fld (.var 2) "own_marks"),
  .fset (.var 0) "own_states" (.fld (.var 2) "own_states"),
  .fset (.var 0) "own_told" (.biO .tupOf (.fld (.var 2) "own_rows")),
  .fset (.var 0) "own_rows" (.dcomp (.sl (.var 3) .nul (.gl g_PAIR)) (.sl (.var 3) (.gl g_PAIR) .nul) (.nm 3) (.fld (.var 2) "own_rows") [3])]
noncomputable def f_Strip_2 : Fn := ⟨2, 4, b_Strip_2, some "Strip", false⟩
/-! law_some = _law_some(pot, pool, many): 0=pot 1=pool 2=many 3=stock 4=found 5=lap -/
noncomputable def l_law_some_0 : List Sm := [.app 4 (.popAt 3 (.call n_law_take [.var 0, .bi .len [.var 3]]))]
noncomputable def b_law_some : List Sm := [
  .many [(3, 1), (4, 1)] [.bi .listOf [.var 1], .lst []],
  .forr 1 (.nm 5) [.var 2] l_law_some_0,
  .ret (.mv 4)]
noncomputable def f_law_some : Fn := ⟨3, 6, b_law_some, none, false⟩
/-! check_strip = check_strip(value): 0=value -/
noncomputable def b_check_strip : List Sm := [
  .ite (.not_ (.isC "Strip" (.var 0))) [.bad] []]
noncomputable def f_check_strip : Fn := ⟨1, 1, b_check_strip, none, false⟩
/-! figures_in_3 = figures_in(words): 0=words -/
noncomputable def b_figures_in_3 : List Sm := [
  .ite (.or_ (.cmp .ne (.bi .len [.var 0]) (.gl g_PAIRq1)) (.cmp .ne (.idx (.var 0) (.int 0)) (.gl g_FIGURES))) [.ret .non] [],
  .ret (.call n_integer_in [.idx (.var 0) (.int 1), .gl g_LEAST_FIGURES, .gl g_MOST_FIGURES])]
noncomputable def f_figures_in_3 : Fn := ⟨1, 1, b_figures_in_3, none, false⟩
/-! row_in_2 = row_in(figures, words): 0=figures 1=words 2=one 3=other 4=put -/
noncomputable def b_row_in_2 : List Sm := [
  .ite (.or_ (.cmp .ne (.bi .len [.var 1]) (.gl g_ROW_WORDS)) (.or_ (.cmp .ne (.idx (.var 1) (.int 0)) (.gl g_ROWq1)) (.cmp .nin (.idx (.var 1) (.neg (.int 1))) (.gl g_SIDES)))) [.ret .non] [],
  .many [(2, 0), (3, 0)] [.call n_integer_in [.idx (.var 1) (.int 1), .int 0, .bin .sub (.var 0) (.int 1)], .call n_integer_in [.idx (.var 1) (.int 2), .int 0, .bin .sub (.var 0) (.int 1)]],
  .set 4 (.call n_integer_in [.idx (.var 1) (.int 3), .int 0, .bin .sub (.bin .mul (.var 0) (.var 0)) (.int 1)]),
  .ite (.or_ (.cmp .isN (.var 2) .non) (.or_ (.cmp .isN (.var 3) .non) (.or_ (.cmp .isN (.var 4) .non) (.cmp .eq (.tup [.var 2, .var 3]) (.gl g_END))))) [.ret .non] [],
  .ret (.tup [.var 2, .var 3, .var 4, .idx (.var 1) (.neg (.int 1))])]
noncomputable def f_row_in_2 : Fn := ⟨2, 5, b_row_in_2, none, false⟩
/-! told_by_3 = told_by(text): 0=text 1=lines 2=line 3=figures 4=rows 5=known 6=number 7=words 8=row -/
noncomputable def e_told_by_3_0 : Ex := .meth .split (.var 2) [.gl g_BLANKq1]
noncomputable def l_told_by_3_1 : List Sm := [.set 8 (.call n_row_in_2 [.var 3, .var 7]), .ite (.or_ (.cmp .isN (.var 8) .non) (.cmp .inn (.sl (.var 8) .nul (.gl g_PAIRq1)) (.var 5))) [.bad] [], .dput 5 (.sl (.var 8) .nul (.gl g_PAIRq1)) (.bi .len [.var 4]), .app 4 (.var 8)]
noncomputable def b_told_by_3 : List Sm := [
  .ite (.not_ (.bi .isStr [.var 0])) [.bad] [],
  .set 1 (.comp 0 e_told_by_3_0 (.nm 2) [.meth .split (.var 0) [.gl g_FEEDq1]] .nul [2]),
  .many [(3, 0), (4, 1), (5, 3)] [.call n_figures_in_3 [.idx (.var 1) (.int 0)], .lst [], .dsp []],
  .ite (.cmp .isN (.var 3) .non) [.bad] [],
  .forr 3 (.tp [.nm 6, .nm 7]) [.sl (.var 1) (.int 1) .nul] l_told_by_3_1,
  .ite (.cmp .eq (.var 4) (.lst [])) [.bad] [],
  .ret (.tup [.var 3, .mv 4, .mv 5])]
noncomputable def f_told_by_3 : Fn := ⟨1, 9, b_told_by_3, none, false⟩
/-! Machine_3 = Machine.__init__(self, text): 0=self 1=text 2=figures 3=rows 4=known -/
noncomputable def b_Machine_3 : List Sm := [
  .tgt (.tp [.nm 2, .nm 3, .nm 4]) (.call n_told_by_3 [.var 1]),
  .fset (.var 0) "own_text" (.var 1),
  .fset (.var 0) "own_figures" (.var 2),
  .fset (.var 0) "own_rows" (.var 3),
  .fset (.var 0) "own_by_rests" (.var 4)]
noncomputable def f_Machine_3 : Fn := ⟨2, 5, b_Machine_3, some "Machine", false⟩
/-! figures_of = figures_of(strip): 0=strip -/
noncomputable def b_figures_of : List Sm := [
  .ret (.bin .add (.bin .add (.fld (.var 0) "own_marks") (.fld (.var 0) "own_states")) (.int 1))]
noncomputable def f_figures_of : Fn := ⟨1, 1, b_figures_of, none, false⟩
/-! row_texts_2 = row_texts(one, other, figure, side): 0=one 1=other 2=figure 3=side -/
noncomputable def b_row_texts_2 : List Sm := [
  .ret (.meth .join (.gl g_BLANKq2) [.lst [.str "row", .bi .strOf [.var 0], .bi .strOf [.var 1], .bi .strOf [.var 2], .var 3]])]
noncomputable def f_row_texts_2 : Fn := ⟨4, 4, b_row_texts_2, none, false⟩
/-! led_text_2 = led_text(strip): 0=strip 1=base 2=marks 3=end 4=rows 5=state 6=mark 7=other 8=side 9=goal 10=figure -/
noncomputable def l_led_text_2_0 : List Sm := [.tgt (.tp [.nm 7, .nm 8, .nm 9]) (.idx (.fld (.var 0) "own_rows") (.tup [.var 5, .var 6])), .set 10 (.bin .add (.bin .add (.bin .mul (.var 7) (.var 1)) (.var 2)) (.var 9)), .app 4 (.call n_row_texts_2 [.bin .add (.var 2) (.var 5), .var 6, .var 10, .var 8]), .app 4 (.call n_row_texts_2 [.var 6, .bin .add (.var 2) (.var 5), .var 10, .var 8])]
noncomputable def b_led_text_2 : List Sm := [
  .many [(1, 0), (2, 0), (3, 0)] [.call n_figures_of [.var 0], .fld (.var 0) "own_marks", .bin .add (.fld (.var 0) "own_marks") (.fld (.var 0) "own_states")],
  .own 4 [.bin .add (.str "figures ") (.bi .strOf [.var 1])],
  .forr 0 (.tp [.nm 5, .nm 6]) [.bi .sorted [.fld (.var 0) "own_rows"]] l_led_text_2_0,
  .ret (.meth .join (.gl g_FEEDq2) [.disp 1 [true, false, false] [.var 4, .call n_row_texts_2 [.var 3, .int 0, .int 0, .gl g_RIGHTq1], .call n_row_texts_2 [.int 0, .var 3, .int 0, .gl g_RIGHTq1]]])]
noncomputable def f_led_text_2 : Fn := ⟨1, 11, b_led_text_2, none, false⟩
/-! led_2 = led(strip): 0=strip -/
noncomputable def b_led_2 : List Sm := [
  .ex (.call n_check_strip [.var 0]),
  .ret (.make n_Machine_3 [.call n_led_text_2 [.var 0]])]
noncomputable def f_led_2 : Fn := ⟨1, 1, b_led_2, none, false⟩
/-! Machine_eq = Machine.__eq__(self, other): 0=self 1=other -/
noncomputable def b_Machine_eq : List Sm := [
  .ret (.and_ (.isC "Machine" (.var 1)) (.cmp .eq (.fld (.var 0) "own_text") (.fld (.var 1) "own_text")))]
noncomputable def f_Machine_eq : Fn := ⟨2, 2, b_Machine_eq, none, false⟩
/-! law_machine_text = _law_machine_text(machine): 0=machine 1=rows 2=one 3=row -/
noncomputable def e_law_machine_text_0 : Ex := .bi .strOf [.bi .int [.var 2]]
noncomputable def e_law_machine_text_1 : Ex := .meth .join (.str " ") [.bin .add (.bin .add (.lst [.str "row"]) (.comp 0 e_law_machine_text_0 (.nm 2) [.sl (.var 3) .nul (.int 3)] .nul [2])) (.lst [.idx (.var 3) (.int 3)])]
noncomputable def b_law_machine_text : List Sm := [
  .own 1 [.bin .add (.str "figures ") (.bi .strOf [.bi .int [.idx (.var 0) (.str "m")]])],
  .ext 1 (.comp 0 e_law_machine_text_1 (.nm 3) [.idx (.var 0) (.str "rows")] .nul [3]),
  .ret (.meth .join (.str "\n") [.var 1])]
noncomputable def f_law_machine_text : Fn := ⟨1, 4, b_law_machine_text, none, false⟩
/-! Machine_text = Machine.text(self): 0=self -/
noncomputable def b_Machine_text : List Sm := [
  .ret (.fld (.var 0) "own_text")]
noncomputable def f_Machine_text : Fn := ⟨1, 1, b_Machine_text, none, false⟩
/-! Machine_figures = Machine.figures(self): 0=self -/
noncomputable def b_Machine_figures : List Sm := [
  .ret (.fld (.var 0) "own_figures")]
noncomputable def f_Machine_figures : Fn := ⟨1, 1, b_Machine_figures, none, false⟩
/-! Machine_rows = Machine.rows(self): 0=self -/
noncomputable def b_Machine_rows : List Sm := [
  .ret (.bi .tupOf [.fld (.var 0) "own_rows"])]
noncomputable def f_Machine_rows : Fn := ⟨1, 1, b_Machine_rows, none, false⟩
/-! law_base = _law_base(strip): 0=strip -/
noncomputable def b_law_base : List Sm := [
  .ret (.bin .add (.bin .add (.idx (.var 0) (.str "marks")) (.idx (.var 0) (.str "states"))) (.int 1))]
noncomputable def f_law_base : Fn := ⟨1, 1, b_law_base, none, false⟩
/-! law_right_25 = _law_right(pot): 0=pot 1=own 2=due 3=lines 4=strip 5=made -/
noncomputable def b_law_right_25 : List Sm := [
  .set 1 (.call n_law_any_strip_2 [.var 0]),
  .set 2 (.call n_law_led_machine [.var 1]),
  .set 3 (.meth .split (.call n_law_strip_text [.var 1]) [.str "\n"]),
  .set 4 (.make n_Strip_2 [.meth .join (.str "\n") [.bin .add (.sl (.var 3) .nul (.int 2)) (.call n_law_some [.var 0, .sl (.var 3) (.int 2) .nul, .bin .sub (.bi .len [.var 3]) (.int 2)])]]),
  .set 5 (.callK n_led_2 [] [.var 4]),
  .ite (.or_ (.cmp .ne (.bi .repr [.prop "Machine" "text" n_Machine_text (.var 5)]) (.bi .repr [.call n_law_machine_text [.var 2]])) (.cmp .notN (.eqV "Machine" n_Machine_eq (.var 5) (.make n_Machine_3 [.call n_law_machine_text [.var 2]])) (.bl true))) [.ret (.bl false)] [],
  .ite (.cmp .ne (.bi .repr [.tup [.prop "Machine" "figures" n_Machine_figures (.var 5), .prop "Machine" "rows" n_Machine_rows (.var 5)]]) (.bi .repr [.tup [.call n_law_base [.var 1], .bi .tupOf [.idx (.var 2) (.str "rows")]]])) [.ret (.bl false)] [],
  .ret (.and_ (.cmp .eq (.bi .len [.idx (.var 2) (.str "rows")]) (.bin .add (.bin .mul (.int 2) (.bi .len [.idx (.var 1) (.str "rows")])) (.int 2))) (.cmp .isN (.eqV "Machine" n_Machine_eq (.call n_led_2 [.var 4]) (.var 5)) (.bl true)))]
noncomputable def f_law_right_25 : Fn := ⟨1, 6, b_law_right_25, none, false⟩
/-! law_pot = _law_pot(script, place): 0=script 1=place 2=cell 3=own 4=small -/
noncomputable def b_law_pot : List Sm := [
  .set 2 (.ite (.cmp .lt (.var 1) (.bi .len [.var 0])) (.idx (.var 0) (.var 1)) (.bin .add (.bin .add (.bin .mod (.bi .int [.bi .sum [.sl (.var 0) .nul (.int 1)]]) (.int 1000003)) (.bin .mul (.int pc_pot1) (.var 1))) (.int pc_pot0))),
  .set 3 (.bin .mul (.bin .mod (.bi .int [.bi .abs [.var 2]]) (.bin .pow (.bin .pow (.int 10) (.int 60)) (.int 5))) (.bi .int [.cmp .ge (.bi .abs [.var 2]) (.bin .pow (.int 10) (.int 18))])),
  .set 4 (.bin .mod (.bi .int [.var 2]) (.int 2305843009213693951)),
  .ret (.shd [.var 3, .bin .mod (.bi .int [.bin .add (.bin .add (.bin .mul (.var 4) (.int pc_pot3)) (.bin .mul (.bin .mul (.int pc_pot4) (.var 1)) (.var 1))) (.int pc_pot2)]) (.int 2305843009213693921), .int 0])]
noncomputable def f_law_pot : Fn := ⟨2, 5, b_law_pot, none, false⟩
/-! law_25 = law(script): 0=script 1=place -/
noncomputable def e_law_25_0 : Ex := .call n_law_right_25 [.call n_law_pot [.var 0, .var 1]]
noncomputable def b_law_25 : List Sm := [
  .ret (.bi .all [.comp 0 e_law_25_0 (.nm 1) [.call n_law_cells [.var 0, .int 3]] .nul [1]])]
noncomputable def f_law_25 : Fn := ⟨1, 2, b_law_25, none, false⟩
noncomputable def gtab : List (Nat × Tr) := [(g_FEED, .str "\n"), (g_BLANK, .str " "), (g_FIGURES, .str "figures"), (g_PAIR, .int 2), (g_MINUS, .str "-"), (g_FIGURES_2, .str "0123456789"), (g_LEAST_FIGURES, .int 2), (g_MOST_FIGURES, .int 9), (g_SIDES, .tup [.str "left", .str "right"]), (g_ROW, .str "row"), (g_ROW_WORDS, .int 5), (g_END, .tup [.int 0, .int 0]), (g_RIGHT, .str "right"), (g_PAIRq1, .int 2), (g_TRIPLE, .int 3), (g_FEEDq1, .str "\n"), (g_BLANKq1, .str " "), (g_FEEDq2, .str "\n"), (g_MARKS, .str "marks"), (g_LEAST_MARKS, .int 2), (g_MOST_MARKS, .int 3), (g_STATES, .str "states"), (g_MOST_STATES, .int 4), (g_LEFT, .str "left"), (g_ROW_WORDS_2, .int 6), (g_END_2, .str "end"), (g_ROWq1, .str "row"), (g_BLANKq2, .str " "), (g_RIGHTq1, .str "right")]
noncomputable def gc : Nat → Option Tr := fun k => gtab.lookup k
noncomputable def ftab : List (Nat × Fn) := [(n_law_cells, f_law_cells), (n_law_take, f_law_take), (n_law_of, f_law_of), (n_law_told_strip_2, f_law_told_strip_2), (n_law_drawn_strip_2, f_law_drawn_strip_2), (n_law_any_strip_2, f_law_any_strip_2), (n_law_led_machine, f_law_led_machine), (n_law_strip_text, f_law_strip_text), (n_Lines_2, f_Lines_2), (n_whole_in, f_whole_in), (n_integer_in, f_integer_in), (n_Lines_number, f_Lines_number), (n_Lines_takes_row, f_Lines_takes_row), (n_Lines_takes, f_Lines_takes), (n_lines_in_2, f_lines_in_2), (n_Strip_2, f_Strip_2), (n_law_some, f_law_some), (n_check_strip, f_check_strip), (n_figures_in_3, f_figures_in_3), (n_row_in_2, f_row_in_2), (n_told_by_3, f_told_by_3), (n_Machine_3, f_Machine_3), (n_figures_of, f_figures_of), (n_row_texts_2, f_row_texts_2), (n_led_text_2, f_led_text_2), (n_led_2, f_led_2), (n_Machine_eq, f_Machine_eq), (n_law_machine_text, f_law_machine_text), (n_Machine_text, f_Machine_text), (n_Machine_figures, f_Machine_figures), (n_Machine_rows, f_Machine_rows), (n_law_base, f_law_base), (n_law_right_25, f_law_right_25), (n_law_pot, f_law_pot), (n_law_25, f_law_25)]
noncomputable def fs : Nat → Option Fn := fun k => ftab.lookup k
@[simp] theorem C_FEED : gc g_FEED = some (.str "\n") := rfl
@[simp] theorem C_BLANK : gc g_BLANK = some (.str " ") := rfl
@[simp] theorem C_PAIR : gc g_PAIR = some (.int 2) := rfl
@[simp] theorem C_MINUS : gc g_MINUS = some (.str "-") := rfl
@[simp] theorem C_FIGURES_2 : gc g_FIGURES_2 = some (.str "0123456789") := rfl
@[simp] theorem C_MARKS : gc g_MARKS = some (.str "marks") := rfl
@[simp] theorem C_LEAST_MARKS : gc g_LEAST_MARKS = some (.int 2) := rfl
@[simp] theorem C_MOST_MARKS : gc g_MOST_MARKS = some (.int 3) := rfl
@[simp] theorem C_STATES : gc g_STATES = some (.str "states") := rfl
@[simp] theorem C_MOST_STATES : gc g_MOST_STATES = some (.int 4) := rfl
@[simp] theorem C_RIGHT : gc g_RIGHT = some (.str "right") := rfl
@[simp] theorem C_LEFT : gc g_LEFT = some (.str "left") := rfl
@[simp] theorem C_ROW : gc g_ROW = some (.str "row") := rfl
@[simp] theorem C_ROW_WORDS_2 : gc g_ROW_WORDS_2 = some (.int 6) := rfl
@[simp] theorem C_TRIPLE : gc g_TRIPLE = some (.int 3) := rfl
@[simp] theorem C_END_2 : gc g_END_2 = some (.str "end") := rfl
@[simp] theorem C_FEEDq1 : gc g_FEEDq1 = some (.str "\n") := rfl
@[simp] theorem C_BLANKq1 : gc g_BLANKq1 = some (.str " ") := rfl
@[simp] theorem C_FIGURES : gc g_FIGURES = some (.str "figures") := rfl
@[simp] theorem C_PAIRq1 : gc g_PAIRq1 = some (.int 2) := rfl
@[simp] theorem C_LEAST_FIGURES : gc g_LEAST_FIGURES = some (.int 2) := rfl
@[simp] theorem C_MOST_FIGURES : gc g_MOST_FIGURES = some (.int 9) := rfl
@[simp] theorem C_SIDES : gc g_SIDES = some (.tup [.str "left", .str "right"]) := rfl
@[simp] theorem C_ROWq1 : gc g_ROWq1 = some (.str "row") := rfl
@[simp] theorem C_ROW_WORDS : gc g_ROW_WORDS = some (.int 5) := rfl
@[simp] theorem C_END : gc g_END = some (.tup [.int 0, .int 0]) := rfl
@[simp] theorem C_BLANKq2 : gc g_BLANKq2 = some (.str " ") := rfl
@[simp] theorem C_FEEDq2 : gc g_FEEDq2 = some (.str "\n") := rfl
@[simp] theorem C_RIGHTq1 : gc g_RIGHTq1 = some (.str "right") := rfl
theorem F_law_cells : fs n_law_cells = some f_law_cells := rfl
theorem F_law_take : fs n_law_take = some f_law_take := rfl
theorem F_law_of : fs n_law_of = some f_law_of := rfl
theorem F_law_told_strip_2 : fs n_law_told_strip_2 = some f_law_told_strip_2 := rfl
theorem F_law_drawn_strip_2 : fs n_law_drawn_strip_2 = some f_law_drawn_strip_2 := rfl
theorem F_law_any_strip_2 : fs n_law_any_strip_2 = some f_law_any_strip_2 := rfl
theorem F_law_led_machine : fs n_law_led_machine = some f_law_led_machine := rfl
theorem F_law_strip_text : fs n_law_strip_text = some f_law_strip_text := rfl
theorem F_Lines_2 : fs n_Lines_2 = some f_Lines_2 := rfl
theorem F_whole_in : fs n_whole_in = some f_whole_in := rfl
theorem F_integer_in : fs n_integer_in = some f_integer_in := rfl
theorem F_Lines_number : fs n_Lines_number = some f_Lines_number := rfl
theorem F_Lines_takes_row : fs n_Lines_takes_row = some f_Lines_takes_row := rfl
theorem F_Lines_takes : fs n_Lines_takes = some f_Lines_takes := rfl
theorem F_lines_in_2 : fs n_lines_in_2 = some f_lines_in_2 := rfl
theorem F_Strip_2 : fs n_Strip_2 = some f_Strip_2 := rfl
theorem F_law_some : fs n_law_some = some f_law_some := rfl
theorem F_check_strip : fs n_check_strip = some f_check_strip := rfl
theorem F_figures_in_3 : fs n_figures_in_3 = some f_figures_in_3 := rfl
theorem F_row_in_2 : fs n_row_in_2 = some f_row_in_2 := rfl
theorem F_told_by_3 : fs n_told_by_3 = some f_told_by_3 := rfl
theorem F_Machine_3 : fs n_Machine_3 = some f_Machine_3 := rfl
theorem F_figures_of : fs n_figures_of = some f_figures_of := rfl
theorem F_row_texts_2 : fs n_row_texts_2 = some f_row_texts_2 := rfl
theorem F_led_text_2 : fs n_led_text_2 = some f_led_text_2 := rfl
theorem F_led_2 : fs n_led_2 = some f_led_2 := rfl
theorem F_Machine_eq : fs n_Machine_eq = some f_Machine_eq := rfl
theorem F_law_machine_text : fs n_law_machine_text = some f_law_machine_text := rfl
theorem F_Machine_text : fs n_Machine_text = some f_Machine_text := rfl
theorem F_Machine_figures : fs n_Machine_figures = some f_Machine_figures := rfl
theorem F_Machine_rows : fs n_Machine_rows = some f_Machine_rows := rfl
theorem F_law_base : fs n_law_base = some f_law_base := rfl
theorem F_law_right_25 : fs n_law_right_25 = some f_law_right_25 := rfl
theorem F_law_pot : fs n_law_pot = some f_law_pot := rfl
theorem F_law_25 : fs n_law_25 = some f_law_25 := rfl
end G
/-! Static facts. -/
namespace G
open Ev PySem L2
open PyProof.Rows hiding St
noncomputable def s_law_cells : Stmt := PySem.Challenge.pw_emptywords_k11_whole_strips_led_to_pair.main.body.getD 58 (.Pass ⟨0, 0, 0, 0⟩)
noncomputable def i_law_cells : FnI := ⟨"_law_cells", "_law_cells", s_law_cells, ["script", "limit"], ["script", "limit"], none, none, "_law_cells", none, false⟩
noncomputable def s_law_take : Stmt := PySem.Challenge.pw_emptywords_k11_whole_strips_led_to_pair.main.body.getD 55 (.Pass ⟨0, 0, 0, 0⟩)
noncomputable def i_law_take : FnI := ⟨"_law_take", "_law_take", s_law_take, ["pot", "upto", "digit", "prime", "blend"], ["pot", "upto"], none, none, "_law_take", none, false⟩
noncomputable def s_law_of : Stmt := PySem.Challenge.pw_emptywords_k11_whole_strips_led_to_pair.main.body.getD 56 (.Pass ⟨0, 0, 0, 0⟩)
noncomputable def i_law_of : FnI := ⟨"_law_of", "_law_of", s_law_of, ["pot", "some"], ["pot", "some"], none, none, "_law_of", none, false⟩
noncomputable def s_law_told_strip_2 : Stmt := PySem.Challenge.pw_emptywords_k11_whole_strips_led_to_pair.main.body.getD 61 (.Pass ⟨0, 0, 0, 0⟩)
noncomputable def i_law_told_strip_2 : FnI := ⟨"_law_told_strip", "_law_told_strip", s_law_told_strip_2, ["pot"], ["pot"], none, none, "_law_told_strip", none, false⟩
noncomputable def s_law_drawn_strip_2 : Stmt := PySem.Challenge.pw_emptywords_k11_whole_strips_led_to_pair.main.body.getD 60 (.Pass ⟨0, 0, 0, 0⟩)
noncomputable def i_law_drawn_strip_2 : FnI := ⟨"_law_drawn_strip", "_law_drawn_strip", s_law_drawn_strip_2, ["pot", "marks", "states", "rows", "state", "mark", "goal"], ["pot"], none, none, "_law_drawn_strip", none, false⟩
noncomputable def s_law_any_strip_2 : Stmt := PySem.Challenge.pw_emptywords_k11_whole_strips_led_to_pair.main.body.getD 64 (.Pass ⟨0, 0, 0, 0⟩)
noncomputable def i_law_any_strip_2 : FnI := ⟨"_law_any_strip", "_law_any_strip", s_law_any_strip_2, ["pot"], ["pot"], none, none, "_law_any_strip", none, false⟩
noncomputable def s_law_led_machine : Stmt := PySem.Challenge.pw_emptywords_k11_whole_strips_led_to_pair.main.body.getD 63 (.Pass ⟨0, 0, 0, 0⟩)
noncomputable def i_law_led_machine : FnI := ⟨"_law_led_machine", "_law_led_machine", s_law_led_machine, ["strip", "marks", "states", "rows", "m", "state", "mark", "other", "side", "goal", "figure"], ["strip"], none, none, "_law_led_machine", none, false⟩
noncomputable def s_law_strip_text : Stmt := PySem.Challenge.pw_emptywords_k11_whole_strips_led_to_pair.main.body.getD 59 (.Pass ⟨0, 0, 0, 0⟩)
noncomputable def i_law_strip_text : FnI := ⟨"_law_strip_text", "_law_strip_text", s_law_strip_text, ["strip", "rows", "state", "mark", "other", "side", "goal", "told"], ["strip"], none, none, "_law_strip_text", none, false⟩
noncomputable def s_Lines_2 : Stmt := (match PySem.Challenge.pw_emptywords_k11_whole_strips_led_to_pair.main.body.getD 42 (.Pass ⟨0, 0, 0, 0⟩) with | .ClassDef _ _ _ b _ _ _ _ _ _ _ => b | _ => []).getD 0 (.Pass ⟨0, 0, 0, 0⟩)
noncomputable def i_Lines_2 : FnI := ⟨"__init__", "Lines.__init__", s_Lines_2, ["self"], ["self"], some "Lines", none, "__init__", none, false⟩
noncomputable def s_whole_in : Stmt := PySem.Challenge.pw_emptywords_k11_whole_strips_led_to_pair.main.body.getD 12 (.Pass ⟨0, 0, 0, 0⟩)
noncomputable def i_whole_in : FnI := ⟨"whole_in", "whole_in", s_whole_in, ["word", "figures", "sign", "found"], ["word"], none, none, "whole_in", none, false⟩
noncomputable def s_integer_in : Stmt := PySem.Challenge.pw_emptywords_k11_whole_strips_led_to_pair.main.body.getD 13 (.Pass ⟨0, 0, 0, 0⟩)
noncomputable def i_integer_in : FnI := ⟨"integer_in", "integer_in", s_integer_in, ["word", "low", "high", "number"], ["word", "low", "high"], none, none, "integer_in", none, false⟩
noncomputable def s_Lines_number : Stmt := (match PySem.Challenge.pw_emptywords_k11_whole_strips_led_to_pair.main.body.getD 42 (.Pass ⟨0, 0, 0, 0⟩) with | .ClassDef _ _ _ b _ _ _ _ _ _ _ => b | _ => []).getD 2 (.Pass ⟨0, 0, 0, 0⟩)
noncomputable def i_Lines_number : FnI := ⟨"number", "Lines.number", s_Lines_number, ["self", "words", "head", "low", "high"], ["self", "words", "head", "low", "high"], none, none, "number", some ("Lines", "number"), false⟩
noncomputable def s_Lines_takes_row : Stmt := (match PySem.Challenge.pw_emptywords_k11_whole_strips_led_to_pair.main.body.getD 42 (.Pass ⟨0, 0, 0, 0⟩) with | .ClassDef _ _ _ b _ _ _ _ _ _ _ => b | _ => []).getD 3 (.Pass ⟨0, 0, 0, 0⟩)
noncomputable def i_Lines_takes_row : FnI := ⟨"takes_row", "Lines.takes_row", s_Lines_takes_row, ["self", "words", "state", "mark", "written", "later", "row"], ["self", "words"], none, none, "takes_row", some ("Lines", "takes_row"), false⟩
noncomputable def s_Lines_takes : Stmt := (match PySem.Challenge.pw_emptywords_k11_whole_strips_led_to_pair.main.body.getD 42 (.Pass ⟨0, 0, 0, 0⟩) with | .ClassDef _ _ _ b _ _ _ _ _ _ _ => b | _ => []).getD 1 (.Pass ⟨0, 0, 0, 0⟩)
noncomputable def i_Lines_takes : FnI := ⟨"takes", "Lines.takes", s_Lines_takes, ["self", "line", "words"], ["self", "line"], none, none, "takes", some ("Lines", "takes"), false⟩
noncomputable def s_lines_in_2 : Stmt := PySem.Challenge.pw_emptywords_k11_whole_strips_led_to_pair.main.body.getD 43 (.Pass ⟨0, 0, 0, 0⟩)
noncomputable def i_lines_in_2 : FnI := ⟨"lines_in", "lines_in", s_lines_in_2, ["text", "found", "many", "line"], ["text"], none, none, "lines_in", none, false⟩
noncomputable def s_Strip_2 : Stmt := (match PySem.Challenge.pw_emptywords_k11_whole_strips_led_to_pair.main.body.getD 44 (.Pass ⟨0, 0, 0, 0⟩) with | .ClassDef _ _ _ b _ _ _ _ _ _ _ => b | _ => []).getD 0 (.Pass ⟨0, 0, 0, 0⟩)
noncomputable def i_Strip_2 : FnI := ⟨"__init__", "Strip.__init__", s_Strip_2, ["self", "text", "lines", "row"], ["self", "text"], some "Strip", none, "__init__", none, false⟩
noncomputable def s_law_some : Stmt := PySem.Challenge.pw_emptywords_k11_whole_strips_led_to_pair.main.body.getD 57 (.Pass ⟨0, 0, 0, 0⟩)
noncomputable def i_law_some : FnI := ⟨"_law_some", "_law_some", s_law_some, ["pot", "pool", "many", "stock", "found", "lap"], ["pot", "pool", "many"], none, none, "_law_some", none, false⟩
noncomputable def s_check_strip : Stmt := PySem.Challenge.pw_emptywords_k11_whole_strips_led_to_pair.main.body.getD 45 (.Pass ⟨0, 0, 0, 0⟩)
noncomputable def i_check_strip : FnI := ⟨"check_strip", "check_strip", s_check_strip, ["value"], ["value"], none, none, "check_strip", none, false⟩
noncomputable def s_figures_in_3 : Stmt := PySem.Challenge.pw_emptywords_k11_whole_strips_led_to_pair.main.body.getD 23 (.Pass ⟨0, 0, 0, 0⟩)
noncomputable def i_figures_in_3 : FnI := ⟨"figures_in", "figures_in", s_figures_in_3, ["words"], ["words"], none, none, "figures_in", none, false⟩
noncomputable def s_row_in_2 : Stmt := PySem.Challenge.pw_emptywords_k11_whole_strips_led_to_pair.main.body.getD 24 (.Pass ⟨0, 0, 0, 0⟩)
noncomputable def i_row_in_2 : FnI := ⟨"row_in", "row_in", s_row_in_2, ["figures", "words", "one", "other", "put"], ["figures", "words"], none, none, "row_in", none, false⟩
noncomputable def s_told_by_3 : Stmt := PySem.Challenge.pw_emptywords_k11_whole_strips_led_to_pair.main.body.getD 25 (.Pass ⟨0, 0, 0, 0⟩)
noncomputable def i_told_by_3 : FnI := ⟨"told_by", "told_by", s_told_by_3, ["text", "lines", "line", "figures", "rows", "known", "number", "words", "row"], ["text"], none, none, "told_by", none, false⟩
noncomputable def s_Machine_3 : Stmt := (match PySem.Challenge.pw_emptywords_k11_whole_strips_led_to_pair.main.body.getD 26 (.Pass ⟨0, 0, 0, 0⟩) with | .ClassDef _ _ _ b _ _ _ _ _ _ _ => b | _ => []).getD 0 (.Pass ⟨0, 0, 0, 0⟩)
noncomputable def i_Machine_3 : FnI := ⟨"__init__", "Machine.__init__", s_Machine_3, ["self", "text", "figures", "rows", "known"], ["self", "text"], some "Machine", none, "__init__", none, false⟩
noncomputable def s_figures_of : Stmt := PySem.Challenge.pw_emptywords_k11_whole_strips_led_to_pair.main.body.getD 49 (.Pass ⟨0, 0, 0, 0⟩)
noncomputable def i_figures_of : FnI := ⟨"figures_of", "figures_of", s_figures_of, ["strip"], ["strip"], none, none, "figures_of", none, false⟩
noncomputable def s_row_texts_2 : Stmt := PySem.Challenge.pw_emptywords_k11_whole_strips_led_to_pair.main.body.getD 50 (.Pass ⟨0, 0, 0, 0⟩)
noncomputable def i_row_texts_2 : FnI := ⟨"row_texts", "row_texts", s_row_texts_2, ["one", "other", "figure", "side"], ["one", "other", "figure", "side"], none, none, "row_texts", none, false⟩
noncomputable def s_led_text_2 : Stmt := PySem.Challenge.pw_emptywords_k11_whole_strips_led_to_pair.main.body.getD 51 (.Pass ⟨0, 0, 0, 0⟩)
noncomputable def i_led_text_2 : FnI := ⟨"led_text", "led_text", s_led_text_2, ["strip", "base", "marks", "end", "rows", "state", "mark", "other", "side", "goal", "figure"], ["strip"], none, none, "led_text", none, false⟩
noncomputable def s_led_2 : Stmt := PySem.Challenge.pw_emptywords_k11_whole_strips_led_to_pair.main.body.getD 52 (.Pass ⟨0, 0, 0, 0⟩)
noncomputable def i_led_2 : FnI := ⟨"led", "led", s_led_2, ["strip"], ["strip"], none, none, "led", none, false⟩
noncomputable def s_Machine_eq : Stmt := (match PySem.Challenge.pw_emptywords_k11_whole_strips_led_to_pair.main.body.getD 26 (.Pass ⟨0, 0, 0, 0⟩) with | .ClassDef _ _ _ b _ _ _ _ _ _ _ => b | _ => []).getD 4 (.Pass ⟨0, 0, 0, 0⟩)
noncomputable def i_Machine_eq : FnI := ⟨"__eq__", "Machine.__eq__", s_Machine_eq, ["self", "other"], ["self", "other"], none, none, "__eq__", some ("Machine", "__eq__"), false⟩
noncomputable def s_law_machine_text : Stmt := PySem.Challenge.pw_emptywords_k11_whole_strips_led_to_pair.main.body.getD 62 (.Pass ⟨0, 0, 0, 0⟩)
noncomputable def i_law_machine_text : FnI := ⟨"_law_machine_text", "_law_machine_text", s_law_machine_text, ["machine", "rows", "one", "row"], ["machine"], none, none, "_law_machine_text", none, false⟩
noncomputable def s_Machine_text : Stmt := (match PySem.Challenge.pw_emptywords_k11_whole_strips_led_to_pair.main.body.getD 26 (.Pass ⟨0, 0, 0, 0⟩) with | .ClassDef _ _ _ b _ _ _ _ _ _ _ => b | _ => []).getD 1 (.Pass ⟨0, 0, 0, 0⟩)
noncomputable def i_Machine_text : FnI := ⟨"text", "Machine.text", s_Machine_text, ["self"], ["self"], none, none, "text", some ("Machine", "text"), true⟩
noncomputable def s_Machine_figures : Stmt := (match PySem.Challenge.pw_emptywords_k11_whole_strips_led_to_pair.main.body.getD 26 (.Pass ⟨0, 0, 0, 0⟩) with | .ClassDef _ _ _ b _ _ _ _ _ _ _ => b | _ => []).getD 2 (.Pass ⟨0, 0, 0, 0⟩)
noncomputable def i_Machine_figures : FnI := ⟨"figures", "Machine.figures", s_Machine_figures, ["self"], ["self"], none, none, "figures", some ("Machine", "figures"), true⟩
noncomputable def s_Machine_rows : Stmt := (match PySem.Challenge.pw_emptywords_k11_whole_strips_led_to_pair.main.body.getD 26 (.Pass ⟨0, 0, 0, 0⟩) with | .ClassDef _ _ _ b _ _ _ _ _ _ _ => b | _ => []).getD 3 (.Pass ⟨0, 0, 0, 0⟩)
noncomputable def i_Machine_rows : FnI := ⟨"rows", "Machine.rows", s_Machine_rows, ["self"], ["self"], none, none, "rows", some ("Machine", "rows"), true⟩
noncomputable def s_law_base : Stmt := PySem.Challenge.pw_emptywords_k11_whole_strips_led_to_pair.main.body.getD 65 (.Pass ⟨0, 0, 0, 0⟩)
noncomputable def i_law_base : FnI := ⟨"_law_base", "_law_base", s_law_base, ["strip"], ["strip"], none, none, "_law_base", none, false⟩
noncomputable def s_law_right_25 : Stmt := PySem.Challenge.pw_emptywords_k11_whole_strips_led_to_pair.main.body.getD 66 (.Pass ⟨0, 0, 0, 0⟩)
noncomputable def i_law_right_25 : FnI := ⟨"_law_right", "_law_right", s_law_right_25, ["pot", "own", "due", "lines", "strip", "made"], ["pot"], none, none, "_law_right", none, false⟩
noncomputable def s_law_pot : Stmt := PySem.Challenge.pw_emptywords_k11_whole_strips_led_to_pair.main.body.getD 54 (.Pass ⟨0, 0, 0, 0⟩)
noncomputable def i_law_pot : FnI := ⟨"_law_pot", "_law_pot", s_law_pot, ["script", "place", "cell", "own", "small"], ["script", "place"], none, none, "_law_pot", none, false⟩
noncomputable def s_law_25 : Stmt := PySem.Challenge.pw_emptywords_k11_whole_strips_led_to_pair.main.body.getD 67 (.Pass ⟨0, 0, 0, 0⟩)
noncomputable def i_law_25 : FnI := ⟨"law", "law", s_law_25, ["script", "place"], ["script"], none, none, "law", none, false⟩
noncomputable def is : List (Nat × FnI) := [(n_law_cells, i_law_cells), (n_law_take, i_law_take), (n_law_of, i_law_of), (n_law_told_strip_2, i_law_told_strip_2), (n_law_drawn_strip_2, i_law_drawn_strip_2), (n_law_any_strip_2, i_law_any_strip_2), (n_law_led_machine, i_law_led_machine), (n_law_strip_text, i_law_strip_text), (n_Lines_2, i_Lines_2), (n_whole_in, i_whole_in), (n_integer_in, i_integer_in), (n_Lines_number, i_Lines_number), (n_Lines_takes_row, i_Lines_takes_row), (n_Lines_takes, i_Lines_takes), (n_lines_in_2, i_lines_in_2), (n_Strip_2, i_Strip_2), (n_law_some, i_law_some), (n_check_strip, i_check_strip), (n_figures_in_3, i_figures_in_3), (n_row_in_2, i_row_in_2), (n_told_by_3, i_told_by_3), (n_Machine_3, i_Machine_3), (n_figures_of, i_figures_of), (n_row_texts_2, i_row_texts_2), (n_led_text_2, i_led_text_2), (n_led_2, i_led_2), (n_Machine_eq, i_Machine_eq), (n_law_machine_text, i_law_machine_text), (n_Machine_text, i_Machine_text), (n_Machine_figures, i_Machine_figures), (n_Machine_rows, i_Machine_rows), (n_law_base, i_law_base), (n_law_right_25, i_law_right_25), (n_law_pot, i_law_pot), (n_law_25, i_law_25)]
noncomputable def D : Ds := ⟨[(n_law_cells, ("_law_cells" : Str)), (n_law_take, ("_law_take" : Str)), (n_law_of, ("_law_of" : Str)), (n_law_told_strip_2, ("_law_told_strip" : Str)), (n_law_drawn_strip_2, ("_law_drawn_strip" : Str)), (n_law_any_strip_2, ("_law_any_strip" : Str)), (n_law_led_machine, ("_law_led_machine" : Str)), (n_law_strip_text, ("_law_strip_text" : Str)), (n_whole_in, ("whole_in" : Str)), (n_integer_in, ("integer_in" : Str)), (n_lines_in_2, ("lines_in" : Str)), (n_law_some, ("_law_some" : Str)), (n_check_strip, ("check_strip" : Str)), (n_figures_in_3, ("figures_in" : Str)), (n_row_in_2, ("row_in" : Str)), (n_told_by_3, ("told_by" : Str)), (n_figures_of, ("figures_of" : Str)), (n_row_texts_2, ("row_texts" : Str)), (n_led_text_2, ("led_text" : Str)), (n_led_2, ("led" : Str)), (n_law_machine_text, ("_law_machine_text" : Str)), (n_law_base, ("_law_base" : Str)), (n_law_right_25, ("_law_right" : Str)), (n_law_pot, ("_law_pot" : Str)), (n_law_25, ("law" : Str))], [(n_Lines_2, ("Lines" : Str)), (n_Strip_2, ("Strip" : Str)), (n_Machine_3, ("Machine" : Str))], [(g_FEED, ("FEED_strips" : Str)), (g_BLANK, ("BLANK_strips" : Str)), (g_PAIR, ("PAIR_strips" : Str)), (g_MINUS, ("MINUS" : Str)), (g_FIGURES_2, ("FIGURES_plain" : Str)), (g_MARKS, ("MARKS" : Str)), (g_LEAST_MARKS, ("LEAST_MARKS" : Str)), (g_MOST_MARKS, ("MOST_MARKS" : Str)), (g_STATES, ("STATES" : Str)), (g_MOST_STATES, ("MOST_STATES" : Str)), (g_RIGHT, ("RIGHT_strips" : Str)), (g_LEFT, ("LEFT_strips" : Str)), (g_ROW, ("ROW_strips" : Str)), (g_ROW_WORDS_2, ("ROW_WORDS_strips" : Str)), (g_TRIPLE, ("TRIPLE" : Str)), (g_END_2, ("END_strips" : Str)), (g_FEEDq1, ("FEED_pairs" : Str)), (g_BLANKq1, ("BLANK_pairs" : Str)), (g_FIGURES, ("FIGURES_pairs" : Str)), (g_PAIRq1, ("PAIR_plain" : Str)), (g_LEAST_FIGURES, ("LEAST_FIGURES" : Str)), (g_MOST_FIGURES, ("MOST_FIGURES" : Str)), (g_SIDES, ("SIDES" : Str)), (g_ROWq1, ("ROW_pairs" : Str)), (g_ROW_WORDS, ("ROW_WORDS_pairs" : Str)), (g_END, ("END_pairs" : Str)), (g_BLANKq2, ("BLANK_leading" : Str)), (g_FEEDq2, ("FEED_leading" : Str)), (g_RIGHTq1, ("RIGHT_plain" : Str))], [("all" : Str), ("list" : Str), ("range" : Str), ("max" : Str), ("min" : Str), ("len" : Str), ("int" : Str), ("sorted" : Str), ("str" : Str), ("isinstance" : Str), ("any" : Str), ("tuple" : Str), ("enumerate" : Str), ("repr" : Str), ("sum" : Str), ("abs" : Str)], [(n_law_cells, [("script" : Str), ("limit" : Str)]), (n_law_take, [("pot" : Str), ("upto" : Str)]), (n_law_of, [("pot" : Str), ("some" : Str)]), (n_law_told_strip_2, [("pot" : Str)]), (n_law_drawn_strip_2, [("pot" : Str)]), (n_law_any_strip_2, [("pot" : Str)]), (n_law_led_machine, [("strip" : Str)]), (n_law_strip_text, [("strip" : Str)]), (n_Lines_2, [("self" : Str)]), (n_whole_in, [("word" : Str)]), (n_integer_in, [("word" : Str), ("low" : Str), ("high" : Str)]), (n_Lines_number, [("self" : Str), ("words" : Str), ("head" : Str), ("low" : Str), ("high" : Str)]), (n_Lines_takes_row, [("self" : Str), ("words" : Str)]), (n_Lines_takes, [("self" : Str), ("line" : Str)]), (n_lines_in_2, [("text" : Str)]), (n_Strip_2, [("self" : Str), ("text" : Str)]), (n_law_some, [("pot" : Str), ("pool" : Str), ("many" : Str)]), (n_check_strip, [("value" : Str)]), (n_figures_in_3, [("words" : Str)]), (n_row_in_2, [("figures" : Str), ("words" : Str)]), (n_told_by_3, [("text" : Str)]), (n_Machine_3, [("self" : Str), ("text" : Str)]), (n_figures_of, [("strip" : Str)]), (n_row_texts_2, [("one" : Str), ("other" : Str), ("figure" : Str), ("side" : Str)]), (n_led_text_2, [("strip" : Str)]), (n_led_2, [("strip" : Str)]), (n_Machine_eq, [("self" : Str), ("other" : Str)]), (n_law_machine_text, [("machine" : Str)]), (n_Machine_text, [("self" : Str)]), (n_Machine_figures, [("self" : Str)]), (n_Machine_rows, [("self" : Str)]), (n_law_base, [("strip" : Str)]), (n_law_right_25, [("pot" : Str)]), (n_law_pot, [("script" : Str), ("place" : Str)]), (n_law_25, [("script" : Str)])], [("Strip" : Str), ("Lines" : Str), ("Machine" : Str)], [("own_marks" : Str), ("own_states" : Str), ("own_rows" : Str), ("own_text" : Str), ("own_told" : Str), ("own_figures" : Str), ("own_by_rests" : Str)], [], [(n_Lines_number, (("Lines" : Str), ("number" : Str))), (n_Lines_takes_row, (("Lines" : Str), ("takes_row" : Str))), (n_Lines_takes, (("Lines" : Str), ("takes" : Str))), (n_Machine_eq, (("Machine" : Str), ("__eq__" : Str)))], [(n_Machine_text, (("Machine" : Str), ("text" : Str))), (n_Machine_figures, (("Machine" : Str), ("figures" : Str))), (n_Machine_rows, (("Machine" : Str), ("rows" : Str)))]⟩
theorem S_law_cells : FnS D i_law_cells f_law_cells := ⟨⟨rfl, rfl, rfl, by decide +kernel, rfl, by decide +kernel, by decide +kernel⟩, by decide +kernel, rfl, rfl, rfl, bnd2 rfl (fun _ _ _ _ _ _ _ _ => rfl) (fun _ _ _ _ _ _ _ _ => rfl) (fun _ _ _ _ _ _ _ _ => rfl), fun _ _ _ h => nomatch h⟩
theorem S_law_take : FnS D i_law_take f_law_take := ⟨⟨rfl, rfl, rfl, by decide +kernel, rfl, by decide +kernel, by decide +kernel⟩, by decide +kernel, rfl, rfl, rfl, bnd2 rfl (fun _ _ _ _ _ _ _ _ => rfl) (fun _ _ _ _ _ _ _ _ => rfl) (fun _ _ _ _ _ _ _ _ => rfl), fun _ _ _ h => nomatch h⟩
theorem S_law_of : FnS D i_law_of f_law_of := ⟨⟨rfl, rfl, rfl, by decide +kernel, rfl, by decide +kernel, by decide +kernel⟩, by decide +kernel, rfl, rfl, rfl, bnd2 rfl (fun _ _ _ _ _ _ _ _ => rfl) (fun _ _ _ _ _ _ _ _ => rfl) (fun _ _ _ _ _ _ _ _ => rfl), fun _ _ _ h => nomatch h⟩
theorem S_law_told_strip_2 : FnS D i_law_told_strip_2 f_law_told_strip_2 := ⟨⟨rfl, rfl, rfl, by decide +kernel, rfl, by decide +kernel, by decide +kernel⟩, by decide +kernel, rfl, rfl, rfl, bnd1 rfl (fun _ _ _ _ _ _ _ => rfl) (fun _ _ _ _ _ _ _ => rfl), fun _ _ _ h => nomatch h⟩
theorem S_law_drawn_strip_2 : FnS D i_law_drawn_strip_2 f_law_drawn_strip_2 := ⟨⟨rfl, rfl, rfl, by decide +kernel, rfl, by decide +kernel, by decide +kernel⟩, by decide +kernel, rfl, rfl, rfl, bnd1 rfl (fun _ _ _ _ _ _ _ => rfl) (fun _ _ _ _ _ _ _ => rfl), fun _ _ _ h => nomatch h⟩
theorem S_law_any_strip_2 : FnS D i_law_any_strip_2 f_law_any_strip_2 := ⟨⟨rfl, rfl, rfl, by decide +kernel, rfl, by decide +kernel, by decide +kernel⟩, by decide +kernel, rfl, rfl, rfl, bnd1 rfl (fun _ _ _ _ _ _ _ => rfl) (fun _ _ _ _ _ _ _ => rfl), fun _ _ _ h => nomatch h⟩
theorem S_law_led_machine : FnS D i_law_led_machine f_law_led_machine := ⟨⟨rfl, rfl, rfl, by decide +kernel, rfl, by decide +kernel, by decide +kernel⟩, by decide +kernel, rfl, rfl, rfl, bnd1 rfl (fun _ _ _ _ _ _ _ => rfl) (fun _ _ _ _ _ _ _ => rfl), fun _ _ _ h => nomatch h⟩
theorem S_law_strip_text : FnS D i_law_strip_text f_law_strip_text := ⟨⟨rfl, rfl, rfl, by decide +kernel, rfl, by decide +kernel, by decide +kernel⟩, by decide +kernel, rfl, rfl, rfl, bnd1 rfl (fun _ _ _ _ _ _ _ => rfl) (fun _ _ _ _ _ _ _ => rfl), fun _ _ _ h => nomatch h⟩
theorem S_Lines_2 : FnS D i_Lines_2 f_Lines_2 := ⟨⟨rfl, rfl, rfl, by decide +kernel, rfl, by decide +kernel, by decide +kernel⟩, by decide +kernel, rfl, rfl, rfl, bnd1 rfl (fun _ _ _ _ _ _ _ => rfl) (fun _ _ _ _ _ _ _ => rfl), fun _ _ _ h => nomatch h⟩
theorem S_whole_in : FnS D i_whole_in f_whole_in := ⟨⟨rfl, rfl, rfl, by decide +kernel, rfl, by decide +kernel, by decide +kernel⟩, by decide +kernel, rfl, rfl, rfl, bnd1 rfl (fun _ _ _ _ _ _ _ => rfl) (fun _ _ _ _ _ _ _ => rfl), fun _ _ _ h => nomatch h⟩
theorem S_integer_in : FnS D i_integer_in f_integer_in := ⟨⟨rfl, rfl, rfl, by decide +kernel, rfl, by decide +kernel, by decide +kernel⟩, by decide +kernel, rfl, rfl, rfl, bnd3 rfl (fun _ _ _ _ _ _ _ _ _ => rfl) (fun _ _ _ _ _ _ _ _ _ => rfl) (fun _ _ _ _ _ _ _ _ _ => rfl) (fun _ _ _ _ _ _ _ _ _ => rfl), fun _ _ _ h => nomatch h⟩
theorem S_Lines_number : FnS D i_Lines_number f_Lines_number := ⟨⟨rfl, rfl, rfl, by decide +kernel, rfl, by decide +kernel, by decide +kernel⟩, by decide +kernel, rfl, rfl, rfl, bnd5 rfl (fun _ _ _ _ _ _ _ _ _ _ _ => rfl) (fun _ _ _ _ _ _ _ _ _ _ _ => rfl) (fun _ _ _ _ _ _ _ _ _ _ _ => rfl) (fun _ _ _ _ _ _ _ _ _ _ _ => rfl) (fun _ _ _ _ _ _ _ _ _ _ _ => rfl) (fun _ _ _ _ _ _ _ _ _ _ _ => rfl), fun _ _ _ h => nomatch h⟩
theorem S_Lines_takes_row : FnS D i_Lines_takes_row f_Lines_takes_row := ⟨⟨rfl, rfl, rfl, by decide +kernel, rfl, by decide +kernel, by decide +kernel⟩, by decide +kernel, rfl, rfl, rfl, bnd2 rfl (fun _ _ _ _ _ _ _ _ => rfl) (fun _ _ _ _ _ _ _ _ => rfl) (fun _ _ _ _ _ _ _ _ => rfl), fun _ _ _ h => nomatch h⟩
theorem S_Lines_takes : FnS D i_Lines_takes f_Lines_takes := ⟨⟨rfl, rfl, rfl, by decide +kernel, rfl, by decide +kernel, by decide +kernel⟩, by decide +kernel, rfl, rfl, rfl, bnd2 rfl (fun _ _ _ _ _ _ _ _ => rfl) (fun _ _ _ _ _ _ _ _ => rfl) (fun _ _ _ _ _ _ _ _ => rfl), fun _ _ _ h => nomatch h⟩
theorem S_lines_in_2 : FnS D i_lines_in_2 f_lines_in_2 := ⟨⟨rfl, rfl, rfl, by decide +kernel, rfl, by decide +kernel, by decide +kernel⟩, by decide +kernel, rfl, rfl, rfl, bnd1 rfl (fun _ _ _ _ _ _ _ => rfl) (fun _ _ _ _ _ _ _ => rfl), fun _ _ _ h => nomatch h⟩
theorem S_Strip_2 : FnS D i_Strip_2 f_Strip_2 := ⟨⟨rfl, rfl, rfl, by decide +kernel, rfl, by decide +kernel, by decide +kernel⟩, by decide +kernel, rfl, rfl, rfl, bnd2 rfl (fun _ _ _ _ _ _ _ _ => rfl) (fun _ _ _ _ _ _ _ _ => rfl) (fun _ _ _ _ _ _ _ _ => rfl), fun _ _ _ h => nomatch h⟩
theorem S_law_some : FnS D i_law_some f_law_some := ⟨⟨rfl, rfl, rfl, by decide +kernel, rfl, by decide +kernel, by decide +kernel⟩, by decide +kernel, rfl, rfl, rfl, bnd3 rfl (fun _ _ _ _ _ _ _ _ _ => rfl) (fun _ _ _ _ _ _ _ _ _ => rfl) (fun _ _ _ _ _ _ _ _ _ => rfl) (fun _ _ _ _ _ _ _ _ _ => rfl), fun _ _ _ h => nomatch h⟩
theorem S_check_strip : FnS D i_check_strip f_check_strip := ⟨⟨rfl, rfl, rfl, by decide +kernel, rfl, by decide +kernel, by decide +kernel⟩, by decide +kernel, rfl, rfl, rfl, bnd1 rfl (fun _ _ _ _ _ _ _ => rfl) (fun _ _ _ _ _ _ _ => rfl), fun _ _ _ h => nomatch h⟩
theorem S_figures_in_3 : FnS D i_figures_in_3 f_figures_in_3 := ⟨⟨rfl, rfl, rfl, by decide +kernel, rfl, by decide +kernel, by decide +kernel⟩, by decide +kernel, rfl, rfl, rfl, bnd1 rfl (fun _ _ _ _ _ _ _ => rfl) (fun _ _ _ _ _ _ _ => rfl), fun _ _ _ h => nomatch h⟩
theorem S_row_in_2 : FnS D i_row_in_2 f_row_in_2 := ⟨⟨rfl, rfl, rfl, by decide +kernel, rfl, by decide +kernel, by decide +kernel⟩, by decide +kernel, rfl, rfl, rfl, bnd2 rfl (fun _ _ _ _ _ _ _ _ => rfl) (fun _ _ _ _ _ _ _ _ => rfl) (fun _ _ _ _ _ _ _ _ => rfl), fun _ _ _ h => nomatch h⟩
theorem S_told_by_3 : FnS D i_told_by_3 f_told_by_3 := ⟨⟨rfl, rfl, rfl, by decide +kernel, rfl, by decide +kernel, by decide +kernel⟩, by decide +kernel, rfl, rfl, rfl, bnd1 rfl (fun _ _ _ _ _ _ _ => rfl) (fun _ _ _ _ _ _ _ => rfl), fun _ _ _ h => nomatch h⟩
theorem S_Machine_3 : FnS D i_Machine_3 f_Machine_3 := ⟨⟨rfl, rfl, rfl, by decide +kernel, rfl, by decide +kernel, by decide +kernel⟩, by decide +kernel, rfl, rfl, rfl, bnd2 rfl (fun _ _ _ _ _ _ _ _ => rfl) (fun _ _ _ _ _ _ _ _ => rfl) (fun _ _ _ _ _ _ _ _ => rfl), fun _ _ _ h => nomatch h⟩
theorem S_figures_of : FnS D i_figures_of f_figures_of := ⟨⟨rfl, rfl, rfl, by decide +kernel, rfl, by decide +kernel, by decide +kernel⟩, by decide +kernel, rfl, rfl, rfl, bnd1 rfl (fun _ _ _ _ _ _ _ => rfl) (fun _ _ _ _ _ _ _ => rfl), fun _ _ _ h => nomatch h⟩
theorem S_row_texts_2 : FnS D i_row_texts_2 f_row_texts_2 := ⟨⟨rfl, rfl, rfl, by decide +kernel, rfl, by decide +kernel, by decide +kernel⟩, by decide +kernel, rfl, rfl, rfl, bnd4 rfl (fun _ _ _ _ _ _ _ _ _ _ => rfl) (fun _ _ _ _ _ _ _ _ _ _ => rfl) (fun _ _ _ _ _ _ _ _ _ _ => rfl) (fun _ _ _ _ _ _ _ _ _ _ => rfl) (fun _ _ _ _ _ _ _ _ _ _ => rfl), fun _ _ _ h => nomatch h⟩
theorem S_led_text_2 : FnS D i_led_text_2 f_led_text_2 := ⟨⟨rfl, rfl, rfl, by decide +kernel, rfl, by decide +kernel, by decide +kernel⟩, by decide +kernel, rfl, rfl, rfl, bnd1 rfl (fun _ _ _ _ _ _ _ => rfl) (fun _ _ _ _ _ _ _ => rfl), fun _ _ _ h => nomatch h⟩
theorem S_led_2 : FnS D i_led_2 f_led_2 := ⟨⟨rfl, rfl, rfl, by decide +kernel, rfl, by decide +kernel, by decide +kernel⟩, by decide +kernel, rfl, rfl, rfl, bnd1 rfl (fun _ _ _ _ _ _ _ => rfl) (fun _ _ _ _ _ _ _ => rfl), fun _ _ _ h => nomatch h⟩
theorem S_Machine_eq : FnS D i_Machine_eq f_Machine_eq := ⟨⟨rfl, rfl, rfl, by decide +kernel, rfl, by decide +kernel, by decide +kernel⟩, by decide +kernel, rfl, rfl, rfl, bnd2 rfl (fun _ _ _ _ _ _ _ _ => rfl) (fun _ _ _ _ _ _ _ _ => rfl) (fun _ _ _ _ _ _ _ _ => rfl), fun _ _ _ h => nomatch h⟩
theorem S_law_machine_text : FnS D i_law_machine_text f_law_machine_text := ⟨⟨rfl, rfl, rfl, by decide +kernel, rfl, by decide +kernel, by decide +kernel⟩, by decide +kernel, rfl, rfl, rfl, bnd1 rfl (fun _ _ _ _ _ _ _ => rfl) (fun _ _ _ _ _ _ _ => rfl), fun _ _ _ h => nomatch h⟩
theorem S_Machine_text : FnS D i_Machine_text f_Machine_text := ⟨⟨rfl, rfl, rfl, by decide +kernel, rfl, by decide +kernel, by decide +kernel⟩, by decide +kernel, rfl, rfl, rfl, bnd1 rfl (fun _ _ _ _ _ _ _ => rfl) (fun _ _ _ _ _ _ _ => rfl), fun _ _ _ h => nomatch h⟩
theorem S_Machine_figures : FnS D i_Machine_figures f_Machine_figures := ⟨⟨rfl, rfl, rfl, by decide +kernel, rfl, by decide +kernel, by decide +kernel⟩, by decide +kernel, rfl, rfl, rfl, bnd1 rfl (fun _ _ _ _ _ _ _ => rfl) (fun _ _ _ _ _ _ _ => rfl), fun _ _ _ h => nomatch h⟩
theorem S_Machine_rows : FnS D i_Machine_rows f_Machine_rows := ⟨⟨rfl, rfl, rfl, by decide +kernel, rfl, by decide +kernel, by decide +kernel⟩, by decide +kernel, rfl, rfl, rfl, bnd1 rfl (fun _ _ _ _ _ _ _ => rfl) (fun _ _ _ _ _ _ _ => rfl), fun _ _ _ h => nomatch h⟩
theorem S_law_base : FnS D i_law_base f_law_base := ⟨⟨rfl, rfl, rfl, by decide +kernel, rfl, by decide +kernel, by decide +kernel⟩, by decide +kernel, rfl, rfl, rfl, bnd1 rfl (fun _ _ _ _ _ _ _ => rfl) (fun _ _ _ _ _ _ _ => rfl), fun _ _ _ h => nomatch h⟩
theorem S_law_right_25 : FnS D i_law_right_25 f_law_right_25 := ⟨⟨rfl, rfl, rfl, by decide +kernel, rfl, by decide +kernel, by decide +kernel⟩, by decide +kernel, rfl, rfl, rfl, bnd1 rfl (fun _ _ _ _ _ _ _ => rfl) (fun _ _ _ _ _ _ _ => rfl), fun _ _ _ h => nomatch h⟩
theorem S_law_pot : FnS D i_law_pot f_law_pot := ⟨⟨rfl, rfl, rfl, by decide +kernel, rfl, by decide +kernel, by decide +kernel⟩, by decide +kernel, rfl, rfl, rfl, bnd2 rfl (fun _ _ _ _ _ _ _ _ => rfl) (fun _ _ _ _ _ _ _ _ => rfl) (fun _ _ _ _ _ _ _ _ => rfl), fun _ _ _ h => nomatch h⟩
theorem S_law_25 : FnS D i_law_25 f_law_25 := ⟨⟨rfl, rfl, rfl, by decide +kernel, rfl, by decide +kernel, by decide +kernel⟩, by decide +kernel, rfl, rfl, rfl, bnd1 rfl (fun _ _ _ _ _ _ _ => rfl) (fun _ _ _ _ _ _ _ => rfl), fun _ _ _ h => nomatch h⟩
theorem tab : tabOk D is = true := by decide +kernel
theorem all : AllS D fs is :=
  .cons F_law_cells S_law_cells <| .cons F_law_take S_law_take <| .cons F_law_of S_law_of <| .cons F_law_told_strip_2 S_law_told_strip_2 <| .cons F_law_drawn_strip_2 S_law_drawn_strip_2 <| .cons F_law_any_strip_2 S_law_any_strip_2 <| .cons F_law_led_machine S_law_led_machine <| .cons F_law_strip_text S_law_strip_text <| .cons F_Lines_2 S_Lines_2 <| .cons F_whole_in S_whole_in <| .cons F_integer_in S_integer_in <| .cons F_Lines_number S_Lines_number <| .cons F_Lines_takes_row S_Lines_takes_row <| .cons F_Lines_takes S_Lines_takes <| .cons F_lines_in_2 S_lines_in_2 <| .cons F_Strip_2 S_Strip_2 <| .cons F_law_some S_law_some <| .cons F_check_strip S_check_strip <| .cons F_figures_in_3 S_figures_in_3 <| .cons F_row_in_2 S_row_in_2 <| .cons F_told_by_3 S_told_by_3 <| .cons F_Machine_3 S_Machine_3 <| .cons F_figures_of S_figures_of <| .cons F_row_texts_2 S_row_texts_2 <| .cons F_led_text_2 S_led_text_2 <| .cons F_led_2 S_led_2 <| .cons F_Machine_eq S_Machine_eq <| .cons F_law_machine_text S_law_machine_text <| .cons F_Machine_text S_Machine_text <| .cons F_Machine_figures S_Machine_figures <| .cons F_Machine_rows S_Machine_rows <| .cons F_law_base S_law_base <| .cons F_law_right_25 S_law_right_25 <| .cons F_law_pot S_law_pot <| .cons F_law_25 S_law_25 <| .nil
end G
section
open PySem PySem.W PyProof.Rows
namespace Hd
class Lw : Prop where
  out : ∀ (ns : List Int), ns.length ≤ 63 → ∃ m', Ev.callF G.gc 64 G.fs 40 G.n_law_25 [.flst (ns.map .int)] [] = some (.bl true, m')
noncomputable def keep (_ : Lw) (P : Prop) : Prop := P
noncomputable def PySem.W.holds_open [F : Lw] := fun {r} {q} {loose} {Xt} {XP} {α} {Yf} {Ya} {YP} {d} {kwd} {N} a1 a2 a3 a4 a5 a6 a7 a8 a9 b1 b2 b3 b4 b5 (call : keep F _) => @_root_.PySem.W.holds_open r q loose Xt XP α Yf Ya YP d kwd N a1 a2 a3 a4 a5 a6 a7 a8 a9 b1 b2 b3 b4 b5 call
set_option maxRecDepth 100000 in
set_option maxHeartbeats 0 in
theorem head [LH : Lw] : PySem.Challenge.rw_emptywords_k11_whole_strips_led_to_pair.Holds := by
  w_on; o_law; k_head; (case hw => w_witness2)
  k_fill
  refine Ev.walk_G (l := PySem.Challenge.rw_emptywords_k11_whole_strips_led_to_pair) (n := 63) (d0 := 40) (wf := 64) (li := G.n_law_25) (x := "script") (D := G.D) (gc := G.gc) (fs := G.fs) (is := G.is) (I := G.i_law_25) rfl (by decide) rfl ⟨rfl, by decide, by decide⟩ (fun w h Y => PySem.W.kIn_of Y) G.tab G.all rfl ⟨rfl, rfl⟩ rfl rfl ?F0 LH.out
  case F0 =>
    intro w mg h KX GG
    refine Ev.dyn_mk (L := [("Strip", ?_), ("Lines", ?_), ("Machine", ?_)]) KX GG rfl ?DF ?DC ?DB ?DK ?D2
    case DF =>
      refine' .cons (Ev.fk (x := "_law_cells") (st := G.s_law_cells) rfl rfl rfl rfl rfl rfl ?fa0 ?fl0 ?fc0 ?fk0) ?_
      (case fa0 => k_is); (case fl0 => k_is); (case fc0 => k_is); (case fk0 => k_is)
      refine' .cons (Ev.fk (x := "_law_take") (st := G.s_law_take) rfl rfl rfl rfl rfl rfl ?fa1 ?fl1 ?fc1 ?fk1) ?_
      (case fa1 => k_is); (case fl1 => k_is); (case fc1 => k_is); (case fk1 => k_is)
      refine' .cons (Ev.fk (x := "_law_of") (st := G.s_law_of) rfl rfl rfl rfl rfl rfl ?fa2 ?fl2 ?fc2 ?fk2) ?_
      (case fa2 => k_is); (case fl2 => k_is); (case fc2 => k_is); (case fk2 => k_is)
      refine' .cons (Ev.fk (x := "_law_told_strip") (st := G.s_law_told_strip_2) rfl rfl rfl rfl rfl rfl ?fa3 ?fl3 ?fc3 ?fk3) ?_
      (case fa3 => k_is); (case fl3 => k_is); (case fc3 => k_is); (case fk3 => k_is)
      refine' .cons (Ev.fk (x := "_law_drawn_strip") (st := G.s_law_drawn_strip_2) rfl rfl rfl rfl rfl rfl ?fa4 ?fl4 ?fc4 ?fk4) ?_
      (case fa4 => k_is); (case fl4 => k_is); (case fc4 => k_is); (case fk4 => k_is)
      refine' .cons (Ev.fk (x := "_law_any_strip") (st := G.s_law_any_strip_2) rfl rfl rfl rfl rfl rfl ?fa5 ?fl5 ?fc5 ?fk5) ?_
      (case fa5 => k_is); (case fl5 => k_is); (case fc5 => k_is); (case fk5 => k_is)
      refine' .cons (Ev.fk (x := "_law_led_machine") (st := G.s_law_led_machine) rfl rfl rfl rfl rfl rfl ?fa6 ?fl6 ?fc6 ?fk6) ?_
      (case fa6 => k_is); (case fl6 => k_is); (case fc6 => k_is); (case fk6 => k_is)
      refine' .cons (Ev.fk (x := "_law_strip_text") (st := G.s_law_strip_text) rfl rfl rfl rfl rfl rfl ?fa7 ?fl7 ?fc7 ?fk7) ?_
      (case fa7 => k_is); (case fl7 => k_is); (case fc7 => k_is); (case fk7 => k_is)
      refine' .cons (Ev.fkC (x := "__init__") (q := "Lines.__init__") (cn := "Lines") (st := G.s_Lines_2) rfl rfl rfl rfl rfl ?fa8 ?fi8 ?fn8 ?fl8 ?fc8 ?fk8 ?fm8 ?fo8) ?_
      (case fa8 => k_is); (case fi8 => k_is); (case fn8 => k_is); (case fl8 => k_is); (case fc8 => k_is); (case fk8 => k_is); (case fm8 => k_is); (case fo8 => k_is)
      refine' .cons (Ev.fk (x := "whole_in") (st := G.s_whole_in) rfl rfl rfl rfl rfl rfl ?fa9 ?fl9 ?fc9 ?fk9) ?_
      (case fa9 => k_is); (case fl9 => k_is); (case fc9 => k_is); (case fk9 => k_is)
      refine' .cons (Ev.fk (x := "integer_in") (st := G.s_integer_in) rfl rfl rfl rfl rfl rfl ?fa10 ?fl10 ?fc10 ?fk10) ?_
      (case fa10 => k_is); (case fl10 => k_is); (case fc10 => k_is); (case fk10 => k_is)
      refine' .cons (Ev.fkM (x := "number") (q := "Lines.number") (cn := "Lines") (st := G.s_Lines_number) rfl rfl rfl rfl rfl rfl ?fa11 ?fi11 ?fn11 ?fl11 ?fc11 ?fk11) ?_
      (case fa11 => k_is); (case fi11 => k_is); (case fn11 => k_is); (case fl11 => k_is); (case fc11 => k_is); (case fk11 => k_is)
      refine' .cons (Ev.fkM (x := "takes_row") (q := "Lines.takes_row") (cn := "Lines") (st := G.s_Lines_takes_row) rfl rfl rfl rfl rfl rfl ?fa12 ?fi12 ?fn12 ?fl12 ?fc12 ?fk12) ?_
      (case fa12 => k_is); (case fi12 => k_is); (case fn12 => k_is); (case fl12 => k_is); (case fc12 => k_is); (case fk12 => k_is)
      refine' .cons (Ev.fkM (x := "takes") (q := "Lines.takes") (cn := "Lines") (st := G.s_Lines_takes) rfl rfl rfl rfl rfl rfl ?fa13 ?fi13 ?fn13 ?fl13 ?fc13 ?fk13) ?_
      (case fa13 => k_is); (case fi13 => k_is); (case fn13 => k_is); (case fl13 => k_is); (case fc13 => k_is); (case fk13 => k_is)
      refine' .cons (Ev.fk (x := "lines_in") (st := G.s_lines_in_2) rfl rfl rfl rfl rfl rfl ?fa14 ?fl14 ?fc14 ?fk14) ?_
      (case fa14 => k_is); (case fl14 => k_is); (case fc14 => k_is); (case fk14 => k_is)
      refine' .cons (Ev.fkC (x := "__init__") (q := "Strip.__init__") (cn := "Strip") (st := G.s_Strip_2) rfl rfl rfl rfl rfl ?fa15 ?fi15 ?fn15 ?fl15 ?fc15 ?fk15 ?fm15 ?fo15) ?_
      (case fa15 => k_is); (case fi15 => k_is); (case fn15 => k_is); (case fl15 => k_is); (case fc15 => k_is); (case fk15 => k_is); (case fm15 => k_is); (case fo15 => k_is)
      refine' .cons (Ev.fk (x := "_law_some") (st := G.s_law_some) rfl rfl rfl rfl rfl rfl ?fa16 ?fl16 ?fc16 ?fk16) ?_
      (case fa16 => k_is); (case fl16 => k_is); (case fc16 => k_is); (case fk16 => k_is)
      refine' .cons (Ev.fk (x := "check_strip") (st := G.s_check_strip) rfl rfl rfl rfl rfl rfl ?fa17 ?fl17 ?fc17 ?fk17) ?_
      (case fa17 => k_is); (case fl17 => k_is); (case fc17 => k_is); (case fk17 => k_is)
      refine' .cons (Ev.fk (x := "figures_in") (st := G.s_figures_in_3) rfl rfl rfl rfl rfl rfl ?fa18 ?fl18 ?fc18 ?fk18) ?_
      (case fa18 => k_is); (case fl18 => k_is); (case fc18 => k_is); (case fk18 => k_is)
      refine' .cons (Ev.fk (x := "row_in") (st := G.s_row_in_2) rfl rfl rfl rfl rfl rfl ?fa19 ?fl19 ?fc19 ?fk19) ?_
      (case fa19 => k_is); (case fl19 => k_is); (case fc19 => k_is); (case fk19 => k_is)
      refine' .cons (Ev.fk (x := "told_by") (st := G.s_told_by_3) rfl rfl rfl rfl rfl rfl ?fa20 ?fl20 ?fc20 ?fk20) ?_
      (case fa20 => k_is); (case fl20 => k_is); (case fc20 => k_is); (case fk20 => k_is)
      refine' .cons (Ev.fkC (x := "__init__") (q := "Machine.__init__") (cn := "Machine") (st := G.s_Machine_3) rfl rfl rfl rfl rfl ?fa21 ?fi21 ?fn21 ?fl21 ?fc21 ?fk21 ?fm21 ?fo21) ?_
      (case fa21 => k_is); (case fi21 => k_is); (case fn21 => k_is); (case fl21 => k_is); (case fc21 => k_is); (case fk21 => k_is); (case fm21 => k_is); (case fo21 => k_is)
      refine' .cons (Ev.fk (x := "figures_of") (st := G.s_figures_of) rfl rfl rfl rfl rfl rfl ?fa22 ?fl22 ?fc22 ?fk22) ?_
      (case fa22 => k_is); (case fl22 => k_is); (case fc22 => k_is); (case fk22 => k_is)
      refine' .cons (Ev.fk (x := "row_texts") (st := G.s_row_texts_2) rfl rfl rfl rfl rfl rfl ?fa23 ?fl23 ?fc23 ?fk23) ?_
      (case fa23 => k_is); (case fl23 => k_is); (case fc23 => k_is); (case fk23 => k_is)
      refine' .cons (Ev.fk (x := "led_text") (st := G.s_led_text_2) rfl rfl rfl rfl rfl rfl ?fa24 ?fl24 ?fc24 ?fk24) ?_
      (case fa24 => k_is); (case fl24 => k_is); (case fc24 => k_is); (case fk24 => k_is)
      refine' .cons (Ev.fk (x := "led") (st := G.s_led_2) rfl rfl rfl rfl rfl rfl ?fa25 ?fl25 ?fc25 ?fk25) ?_
      (case fa25 => k_is); (case fl25 => k_is); (case fc25 => k_is); (case fk25 => k_is)
      refine' .cons (Ev.fkM (x := "__eq__") (q := "Machine.__eq__") (cn := "Machine") (st := G.s_Machine_eq) rfl rfl rfl rfl rfl rfl ?fa26 ?fi26 ?fn26 ?fl26 ?fc26 ?fk26) ?_
      (case fa26 => k_is); (case fi26 => k_is); (case fn26 => k_is); (case fl26 => k_is); (case fc26 => k_is); (case fk26 => k_is)
      refine' .cons (Ev.fk (x := "_law_machine_text") (st := G.s_law_machine_text) rfl rfl rfl rfl rfl rfl ?fa27 ?fl27 ?fc27 ?fk27) ?_
      (case fa27 => k_is); (case fl27 => k_is); (case fc27 => k_is); (case fk27 => k_is)
      refine' .cons (Ev.fkP (x := "text") (q := "Machine.text") (cn := "Machine") (st := G.s_Machine_text) rfl rfl rfl rfl rfl rfl ?fa28 ?fi28 ?fg28 ?ft28 ?fr28 ?fl28 ?fc28 ?fk28) ?_
      (case fa28 => k_is); (case fi28 => k_is); (case fg28 => k_is); (case ft28 => k_is); (case fr28 => k_is); (case fl28 => k_is); (case fc28 => k_is); (case fk28 => k_is)
      refine' .cons (Ev.fkP (x := "figures") (q := "Machine.figures") (cn := "Machine") (st := G.s_Machine_figures) rfl rfl rfl rfl rfl rfl ?fa29 ?fi29 ?fg29 ?ft29 ?fr29 ?fl29 ?fc29 ?fk29) ?_
      (case fa29 => k_is); (case fi29 => k_is); (case fg29 => k_is); (case ft29 => k_is); (case fr29 => k_is); (case fl29 => k_is); (case fc29 => k_is); (case fk29 => k_is)
      refine' .cons (Ev.fkP (x := "rows") (q := "Machine.rows") (cn := "Machine") (st := G.s_Machine_rows) rfl rfl rfl rfl rfl rfl ?fa30 ?fi30 ?fg30 ?ft30 ?fr30 ?fl30 ?fc30 ?fk30) ?_
      (case fa30 => k_is); (case fi30 => k_is); (case fg30 => k_is); (case ft30 => k_is); (case fr30 => k_is); (case fl30 => k_is); (case fc30 => k_is); (case fk30 => k_is)
      refine' .cons (Ev.fk (x := "_law_base") (st := G.s_law_base) rfl rfl rfl rfl rfl rfl ?fa31 ?fl31 ?fc31 ?fk31) ?_
      (case fa31 => k_is); (case fl31 => k_is); (case fc31 => k_is); (case fk31 => k_is)
      refine' .cons (Ev.fk (x := "_law_right") (st := G.s_law_right_25) rfl rfl rfl rfl rfl rfl ?fa32 ?fl32 ?fc32 ?fk32) ?_
      (case fa32 => k_is); (case fl32 => k_is); (case fc32 => k_is); (case fk32 => k_is)
      refine' .cons (Ev.fk (x := "_law_pot") (st := G.s_law_pot) rfl rfl rfl rfl rfl rfl ?fa33 ?fl33 ?fc33 ?fk33) ?_
      (case fa33 => k_is); (case fl33 => k_is); (case fc33 => k_is); (case fk33 => k_is)
      refine' .cons (Ev.fk (x := "law") (st := G.s_law_25) rfl rfl rfl rfl rfl rfl ?fa34 ?fl34 ?fc34 ?fk34) ?_
      (case fa34 => k_is); (case fl34 => k_is); (case fc34 => k_is); (case fk34 => k_is)
      exact .nil
    case DC =>
      refine' .cons (x := "FEED_strips") rfl ?ca0 ?co0 ?_
      (case ca0 => k_is); (case co0 => kernel_rfl)
      refine' .cons (x := "BLANK_strips") rfl ?ca1 ?co1 ?_
      (case ca1 => k_is); (case co1 => kernel_rfl)
      refine' .cons (x := "PAIR_strips") rfl ?ca2 ?co2 ?_
      (case ca2 => k_is); (case co2 => kernel_rfl)
      refine' .cons (x := "MINUS") rfl ?ca3 ?co3 ?_
      (case ca3 => k_is); (case co3 => kernel_rfl)
      refine' .cons (x := "FIGURES_plain") rfl ?ca4 ?co4 ?_
      (case ca4 => k_is); (case co4 => kernel_rfl)
      refine' .cons (x := "MARKS") rfl ?ca5 ?co5 ?_
      (case ca5 => k_is); (case co5 => kernel_rfl)
      refine' .cons (x := "LEAST_MARKS") rfl ?ca6 ?co6 ?_
      (case ca6 => k_is); (case co6 => kernel_rfl)
      refine' .cons (x := "MOST_MARKS") rfl ?ca7 ?co7 ?_
      (case ca7 => k_is); (case co7 => kernel_rfl)
      refine' .cons (x := "STATES") rfl ?ca8 ?co8 ?_
      (case ca8 => k_is); (case co8 => kernel_rfl)
      refine' .cons (x := "MOST_STATES") rfl ?ca9 ?co9 ?_
      (case ca9 => k_is); (case co9 => kernel_rfl)
      refine' .cons (x := "RIGHT_strips") rfl ?ca10 ?co10 ?_
      (case ca10 => k_is); (case co10 => kernel_rfl)
      refine' .cons (x := "LEFT_strips") rfl ?ca11 ?co11 ?_
      (case ca11 => k_is); (case co11 => kernel_rfl)
      refine' .cons (x := "ROW_strips") rfl ?ca12 ?co12 ?_
      (case ca12 => k_is); (case co12 => kernel_rfl)
      refine' .cons (x := "ROW_WORDS_strips") rfl ?ca13 ?co13 ?_
      (case ca13 => k_is); (case co13 => kernel_rfl)
      refine' .cons (x := "TRIPLE") rfl ?ca14 ?co14 ?_
      (case ca14 => k_is); (case co14 => kernel_rfl)
      refine' .cons (x := "END_strips") rfl ?ca15 ?co15 ?_
      (case ca15 => k_is); (case co15 => kernel_rfl)
      refine' .cons (x := "FEED_pairs") rfl ?ca16 ?co16 ?_
      (case ca16 => k_is); (case co16 => kernel_rfl)
      refine' .cons (x := "BLANK_pairs") rfl ?ca17 ?co17 ?_
      (case ca17 => k_is); (case co17 => kernel_rfl)
      refine' .cons (x := "FIGURES_pairs") rfl ?ca18 ?co18 ?_
      (case ca18 => k_is); (case co18 => kernel_rfl)
      refine' .cons (x := "PAIR_plain") rfl ?ca19 ?co19 ?_
      (case ca19 => k_is); (case co19 => kernel_rfl)
      refine' .cons (x := "LEAST_FIGURES") rfl ?ca20 ?co20 ?_
      (case ca20 => k_is); (case co20 => kernel_rfl)
      refine' .cons (x := "MOST_FIGURES") rfl ?ca21 ?co21 ?_
      (case ca21 => k_is); (case co21 => kernel_rfl)
      refine' .cons (x := "SIDES") rfl ?ca22 ?co22 ?_
      (case ca22 => k_is); (case co22 => kernel_rfl)
      refine' .cons (x := "ROW_pairs") rfl ?ca23 ?co23 ?_
      (case ca23 => k_is); (case co23 => kernel_rfl)
      refine' .cons (x := "ROW_WORDS_pairs") rfl ?ca24 ?co24 ?_
      (case ca24 => k_is); (case co24 => kernel_rfl)
      refine' .cons (x := "END_pairs") rfl ?ca25 ?co25 ?_
      (case ca25 => k_is); (case co25 => kernel_rfl)
      refine' .cons (x := "BLANK_leading") rfl ?ca26 ?co26 ?_
      (case ca26 => k_is); (case co26 => kernel_rfl)
      refine' .cons (x := "FEED_leading") rfl ?ca27 ?co27 ?_
      (case ca27 => k_is); (case co27 => kernel_rfl)
      refine' .cons (x := "RIGHT_plain") rfl ?ca28 ?co28 ?_
      (case ca28 => k_is); (case co28 => kernel_rfl)
      exact .nil
    case DB =>
      refine' .cons (x := "all") ?ba0 ?_
      (case ba0 => k_is)
      refine' .cons (x := "list") ?ba1 ?_
      (case ba1 => k_is)
      refine' .cons (x := "range") ?ba2 ?_
      (case ba2 => k_is)
      refine' .cons (x := "max") ?ba3 ?_
      (case ba3 => k_is)
      refine' .cons (x := "min") ?ba4 ?_
      (case ba4 => k_is)
      refine' .cons (x := "len") ?ba5 ?_
      (case ba5 => k_is)
      refine' .cons (x := "int") ?ba6 ?_
      (case ba6 => k_is)
      refine' .cons (x := "sorted") ?ba7 ?_
      (case ba7 => k_is)
      refine' .cons (x := "str") ?ba8 ?_
      (case ba8 => k_is)
      refine' .cons (x := "isinstance") ?ba9 ?_
      (case ba9 => k_is)
      refine' .cons (x := "any") ?ba10 ?_
      (case ba10 => k_is)
      refine' .cons (x := "tuple") ?ba11 ?_
      (case ba11 => k_is)
      refine' .cons (x := "enumerate") ?ba12 ?_
      (case ba12 => k_is)
      refine' .cons (x := "repr") ?ba13 ?_
      (case ba13 => k_is)
      refine' .cons (x := "sum") ?ba14 ?_
      (case ba14 => k_is)
      refine' .cons (x := "abs") ?ba15 ?_
      (case ba15 => k_is)
      exact .nil
    case DK =>
      refine' .cons ?ka0 (Ev.clsF ?kb0 ?kc0 ?kd0 ?ke0 ?kf0 ?kg0 ?kh0 ?ki0 ?kj0 ?kk0 ?kl0 ?km0 ?kn0 ?ko0 ?kp0 ?kq0) ?_
      (case ka0 => k_is); (case kb0 => k_is); (case kc0 => k_is); (case kd0 => k_is); (case ke0 => k_is)
      case kf0 =>
        refine' .cons ?na0_0 ?_
        (case na0_0 => k_is)
        refine' .cons ?na0_1 ?_
        (case na0_1 => k_is)
        refine' .cons ?na0_2 ?_
        (case na0_2 => k_is)
        refine' .cons ?na0_3 ?_
        (case na0_3 => k_is)
        refine' .cons ?na0_4 ?_
        (case na0_4 => k_is)
        refine' .cons ?na0_5 ?_
        (case na0_5 => k_is)
        refine' .cons ?na0_6 ?_
        (case na0_6 => k_is)
        exact .nil
      (case kg0 => kit_is); (case kh0 => kit_is); (case ki0 => kit_is); (case kj0 => kit_is); (case kk0 => kit_is); (case kl0 => kit_is); (case km0 => kit_is); (case kn0 => k_is); (case ko0 => k_is); (case kp0 => k_is); (case kq0 => k_is)
      refine' .cons ?ka1 (Ev.clsF ?kb1 ?kc1 ?kd1 ?ke1 ?kf1 ?kg1 ?kh1 ?ki1 ?kj1 ?kk1 ?kl1 ?km1 ?kn1 ?ko1 ?kp1 ?kq1) ?_
      (case ka1 => k_is); (case kb1 => k_is); (case kc1 => k_is); (case kd1 => k_is); (case ke1 => k_is)
      case kf1 =>
        refine' .cons ?na1_0 ?_
        (case na1_0 => k_is)
        refine' .cons ?na1_1 ?_
        (case na1_1 => k_is)
        refine' .cons ?na1_2 ?_
        (case na1_2 => k_is)
        refine' .cons ?na1_3 ?_
        (case na1_3 => k_is)
        refine' .cons ?na1_4 ?_
        (case na1_4 => k_is)
        refine' .cons ?na1_5 ?_
        (case na1_5 => k_is)
        refine' .cons ?na1_6 ?_
        (case na1_6 => k_is)
        exact .nil
      (case kg1 => kit_is); (case kh1 => kit_is); (case ki1 => kit_is); (case kj1 => kit_is); (case kk1 => kit_is); (case kl1 => kit_is); (case km1 => kit_is); (case kn1 => k_is); (case ko1 => k_is); (case kp1 => k_is); (case kq1 => k_is)
      refine' .cons ?ka2 (Ev.clsF ?kb2 ?kc2 ?kd2 ?ke2 ?kf2 ?kg2 ?kh2 ?ki2 ?kj2 ?kk2 ?kl2 ?km2 ?kn2 ?ko2 ?kp2 ?kq2) ?_
      (case ka2 => k_is); (case kb2 => k_is); (case kc2 => k_is); (case kd2 => k_is); (case ke2 => k_is)
      case kf2 =>
        refine' .cons ?na2_0 ?_
        (case na2_0 => k_is)
        refine' .cons ?na2_1 ?_
        (case na2_1 => k_is)
        refine' .cons ?na2_2 ?_
        (case na2_2 => k_is)
        refine' .cons ?na2_3 ?_
        (case na2_3 => k_is)
        refine' .cons ?na2_4 ?_
        (case na2_4 => k_is)
        refine' .cons ?na2_5 ?_
        (case na2_5 => k_is)
        refine' .cons ?na2_6 ?_
        (case na2_6 => k_is)
        exact .nil
      (case kg2 => kit_is); (case kh2 => kit_is); (case ki2 => kit_is); (case kj2 => kit_is); (case kk2 => kit_is); (case kl2 => kit_is); (case km2 => kit_is); (case kn2 => k_is); (case ko2 => k_is); (case kp2 => k_is); (case kq2 => k_is)
      exact .nil
    case D2 =>
      refine' .cons ?za0 ?_
      case za0 =>
        refine' .cons ?zb0_0 ?_
        (case zb0_0 => kit_is)
        refine' .cons ?zb0_1 ?_
        (case zb0_1 => kit_is)
        refine' .cons ?zb0_2 ?_
        (case zb0_2 => kit_is)
        exact .nil
      refine' .cons ?za1 ?_
      case za1 =>
        refine' .cons ?zb1_0 ?_
        (case zb1_0 => kit_is)
        refine' .cons ?zb1_1 ?_
        (case zb1_1 => kit_is)
        refine' .cons ?zb1_2 ?_
        (case zb1_2 => kit_is)
        exact .nil
      refine' .cons ?za2 ?_
      case za2 =>
        refine' .cons ?zb2_0 ?_
        (case zb2_0 => kit_is)
        refine' .cons ?zb2_1 ?_
        (case zb2_1 => kit_is)
        refine' .cons ?zb2_2 ?_
        (case zb2_2 => kit_is)
        exact .nil
      exact .nil
end Hd
end
/-! The pot: what is drawn. -/
namespace G
open Ev PySem L2
noncomputable def wf : Nat := 64
structure Pot (m : List Ob) (n k : Nat) : Prop where
  ex : ∃ o s c : Int, m[n]? = some (.lst [.int o, .int s, .int c]) ∧ 0 ≤ s ∧ s < 2 ^ 61 ∧ 0 ≤ c ∧ c ≤ k
theorem take_spec {d e n k : Nat} {m : List Ob} {u : Int} (h : Pot m n k) (hk : k < 1073741824) (hu : 0 < u) (hu2 : u < 1152921504606846976) (he : e + 1 ≤ d) :
    ∃ (j : Int) (l : List Tr), callF gc 64 fs d n_law_take [.ob n, .int u] m = some (.int j, m.set n (.lst l)) ∧ 0 ≤ j ∧ j < u ∧ Pot (m.set n (.lst l)) n (k + 1) := by
  obtain ⟨d, rfl⟩ : ∃ d', d = d' + 1 := ⟨d - 1, by omega⟩
  obtain ⟨o, s, c, hm, hs, hs2, hc, hc2⟩ := h.ex
  have ss : ∀ x y : Ob, (m.set n x).set n y = m.set n y := fun x y => by simp
  rw [callS (fn := f_law_take) rfl rfl rfl]
  have q0 : 0 < pc_take0 ∧ pc_take0 < 1000000 := by decide
  have q2 : 0 < pc_take2 ∧ pc_take2 < 1000000 := by decide
  have q3 : 0 < pc_take3 ∧ pc_take3 < 1000000 := by decide
  have q4 : 0 < pc_take4 ∧ pc_take4 < 1000000 := by decide
  by_cases ho : 0 < o
  · refine ⟨o % u, [.int (o / u), .int s, .int c], ?_, Int.emod_nonneg _ (by omega), Int.emod_lt_of_pos _ hu, ⟨_, _, _, set_get hm, hs, hs2, hc, by omega⟩⟩
    simp [f_law_take, b_law_take, hm, ho, opB_fdiv hu hu2, opB_mod hu, ixN, asInt]
  · have hs1 : ∀ x : Ob, (m.set n x)[n]? = some x := fun x => set_get hm
    have e1 : opB .mul (.int pc_take4) (.int (c + 1)) = some (.int (pc_take4 * (c + 1))) := opB_mul (.of64 (by omega) (by omega)) (.of64 (by omega) (by omega))
    have e2 : opB .mul (.int (pc_take4 * (c + 1))) (.int (c + 1)) = some (.int (pc_take4 * (c + 1) * (c + 1))) := opB_mul (.of64 (by unfold pc_take4; omega) (by unfold pc_take4; omega)) (.of64 (by omega) (by omega))
    have e3 : opB .mul (.int pc_take3) (.int (c + 1)) = some (.int (pc_take3 * (c + 1))) := opB_mul (.of64 (by omega) (by omega)) (.of64 (by omega) (by omega))
    have b1 : (c + 1) * (c + 1) ≤ 1073741825 * 1073741825 := Int.mul_le_mul (by omega) (by omega) (by omega) (by omega)
    have b0 : 0 ≤ (c + 1) * (c + 1) := Int.mul_nonneg (by omega) (by omega)
    have b2 : pc_take4 * (c + 1) * (c + 1) = pc_take4 * ((c + 1) * (c + 1)) := Int.mul_assoc _ _ _
    have e4 : opB .pow (.int (s + pc_take4 * (c + 1) * (c + 1) + pc_take1)) (.int 3) = some (.int ((s + pc_take4 * (c + 1) * (c + 1) + pc_take1) ^ 3)) := opB_cube (by rw [b2]; unfold pc_take4 pc_take1; omega) (by rw [b2]; unfold pc_take4 pc_take1; omega)
    obtain ⟨B, hB⟩ : ∃ B, (s + pc_take4 * (c + 1) * (c + 1) + pc_take1) ^ 3 = B := ⟨_, rfl⟩
    rw [hB] at e4
    have e5 : ∀ (b p : Int), 0 < p → p < 4294967296 → opB .mul (.int (b % p)) (.int (b % p % pc_take2 + pc_take3 * (c + 1))) = some (.int (b % p * (b % p % pc_take2 + pc_take3 * (c + 1)))) := fun b p h1 h2 => by
      have := Int.emod_nonneg b (show p ≠ 0 by omega)
      have := Int.emod_lt_of_pos b h1
      have := Int.emod_nonneg (b % p) (show pc_take2 ≠ 0 by omega)
      have := Int.emod_lt_of_pos (b % p) q2.1
      have z1 : pc_take3 * (c + 1) ≤ 1000000 * 1073741825 := Int.mul_le_mul (by omega) (by omega) (by omega) (by omega)
      have z0 : 0 ≤ pc_take3 * (c + 1) := Int.mul_nonneg (by omega) (by omega)
      exact opB_mul (.of64 (by omega) (by omega)) (.of64 (by omega) (by omega))
    have m5 : opB .mod (.int (c + 1)) (.int 5) = some (.int ((c + 1) % 5)) := opB_mod (by omega)
    have e6 : ∀ b p : Int, 0 < p → opB .mod (.int b) (.int p) = some (.int (b % p)) := fun b p h => opB_mod h
    have e7 : ∀ b : Int, opB .mod (.int b) (.int pc_take2) = some (.int (b % pc_take2)) := fun b => opB_mod q2.1
    have e8 : ∀ b : Int, opB .fdiv (.int b) (.int pc_take0) = some (.int (b / pc_take0)) := fun b => opB_fdiv q0.1 (by omega)
    have e9 : ∀ b : Int, opB .mod (.int b) (.int u) = some (.int (b % u)) := fun b => opB_mod hu
    have r0 := Int.emod_nonneg (c + 1) (show (5 : Int) ≠ 0 by omega)
    have r1 := Int.emod_lt_of_pos (c + 1) (show (0 : Int) < 5 by omega)
    have P : Pot (m.set n (.lst [.int o, .int s, .int (c + 1)])) n (k + 1) := ⟨_, _, _, set_get hm, hs, hs2, by omega, by omega⟩
    have cases5 : (c + 1) % 5 = 0 ∨ (c + 1) % 5 = 1 ∨ (c + 1) % 5 = 2 ∨ (c + 1) % 5 = 3 ∨ (c + 1) % 5 = 4 := by omega
    have fi : ∀ (b p : Int), 0 ≤ b % p * (b % p % pc_take2 + pc_take3 * (c + 1)) / pc_take0 % u ∧ b % p * (b % p % pc_take2 + pc_take3 * (c + 1)) / pc_take0 % u < u := fun b p => ⟨Int.emod_nonneg _ (by omega), Int.emod_lt_of_pos _ hu⟩
    rcases cases5 with z | z | z | z | z
    · refine ⟨_, _, ?_, (fi B 2147483647).1, (fi B 2147483647).2, P⟩
      simp [f_law_take, b_law_take, hm, ho, hs1, e1, e2, e3, e4, e5, e6, e7, e8, e9, m5, z, ixN, asInt]
    · refine ⟨_, _, ?_, (fi B 2147483629).1, (fi B 2147483629).2, P⟩
      simp [f_law_take, b_law_take, hm, ho, hs1, e1, e2, e3, e4, e5, e6, e7, e8, e9, m5, z, ixN, asInt]
    · refine ⟨_, _, ?_, (fi B 2147483587).1, (fi B 2147483587).2, P⟩
      simp [f_law_take, b_law_take, hm, ho, hs1, e1, e2, e3, e4, e5, e6, e7, e8, e9, m5, z, ixN, asInt]
    · refine ⟨_, _, ?_, (fi B 2147483579).1, (fi B 2147483579).2, P⟩
      simp [f_law_take, b_law_take, hm, ho, hs1, e1, e2, e3, e4, e5, e6, e7, e8, e9, m5, z, ixN, asInt]
    · refine ⟨_, _, ?_, (fi B 2147483563).1, (fi B 2147483563).2, P⟩
      simp [f_law_take, b_law_take, hm, ho, hs1, e1, e2, e3, e4, e5, e6, e7, e8, e9, m5, z, ixN, asInt]
end G
/-! The pot made of a script's cell. -/
namespace G
open Ev PySem L2
theorem p18 : opB .pow (.int 10) (.int 18) = some (.int 1000000000000000000) := (opB_pow (by decide) (by decide)).trans rfl
theorem p60 : opB .pow (.int 10) (.int 60) = some (.int 1000000000000000000000000000000000000000000000000000000000000) := (opB_pow (by decide) (by decide)).trans rfl
theorem p300 : opB .pow (.int 1000000000000000000000000000000000000000000000000000000000000) (.int 5) = some (.int 1000000000000000000000000000000000000000000000000000000000000000000000000000000000000000000000000000000000000000000000000000000000000000000000000000000000000000000000000000000000000000000000000000000000000000000000000000000000000000000000000000000000000000000000000000000000000000000000000000000000000) := (opB_pow (by decide) (by decide +kernel)).trans (congrArg (fun x => some (Tr.int x)) (by decide +kernel))
noncomputable def b_potR : List Sm := b_law_pot.drop 1
theorem pot_rest {cf : CF} {m : List Ob} {x0 : Slot} {C : Int} {i : Nat} (hi : i ≤ 2) : ∃ o s : Int, exSs gc cf 64 b_potR ⟨[x0, .val (.int i), .val (.int C), .none, .none], m⟩ = .ok (.ret (.ob m.length)) ⟨[x0, .val (.int i), .val (.int C), .val (.int o), .val (.int (C % 2305843009213693951))], m ++ [.lst [.int o, .int s, .int 0]]⟩ ∧ 0 ≤ s ∧ s < 2305843009213693921 := by
  have q0 := Int.emod_nonneg C (show (2305843009213693951 : Int) ≠ 0 by omega)
  have q1 := Int.emod_lt_of_pos C (show (0 : Int) < 2305843009213693951 by omega)
  have c3 : 0 < pc_pot3 ∧ pc_pot3 < 1000000 := by decide
  have c4 : 0 < pc_pot4 ∧ pc_pot4 < 1000000 := by decide
  have s1 : opB .mul (.int (C % 2305843009213693951)) (.int pc_pot3) = some (.int (C % 2305843009213693951 * pc_pot3)) := opB_mul (.of64 (by omega) (by omega)) (.of64 (by omega) (by omega))
  have s2 : opB .mul (.int pc_pot4) (.int (i : Int)) = some (.int (pc_pot4 * i)) := opB_mul (.of64 (by omega) (by omega)) (.of64 (by omega) (by omega))
  have s3 : opB .mul (.int (pc_pot4 * (i : Int))) (.int (i : Int)) = some (.int (pc_pot4 * i * i)) := opB_mul (.of64 (by unfold pc_pot4; omega) (by unfold pc_pot4; omega)) (.of64 (by omega) (by omega))
  have r0 : ∀ x : Int, 0 ≤ x % 2305843009213693921 := fun x => Int.emod_nonneg _ (by omega)
  have r1 : ∀ x : Int, x % 2305843009213693921 < 2305843009213693921 := fun x => Int.emod_lt_of_pos _ (by omega)
  have d1 : opB .mod (.int C) (.int 2305843009213693951) = some (.int (C % 2305843009213693951)) := opB_mod (by omega)
  have d2 : ∀ x : Int, opB .mod (.int x) (.int 2305843009213693921) = some (.int (x % 2305843009213693921)) := fun x => opB_mod (by omega)
  have a1 := b_abs C
  generalize (if C < 0 then -C else C) = A at a1
  obtain ⟨M, hM⟩ : ∃ M : Int, M = 1000000000000000000000000000000000000000000000000000000000000000000000000000000000000000000000000000000000000000000000000000000000000000000000000000000000000000000000000000000000000000000000000000000000000000000000000000000000000000000000000000000000000000000000000000000000000000000000000000000000000 := ⟨_, rfl⟩
  have hM0 : 0 < M := by rw [hM]; decide +kernel
  have pM : opB .pow (.int 1000000000000000000000000000000000000000000000000000000000000) (.int 5) = some (.int M) := by rw [hM]; exact p300
  have n0 := Int.emod_nonneg A (show M ≠ 0 by omega)
  have n1 := Int.emod_lt_of_pos A hM0
  have lM : Lil (A % M) := Lil.of 1000 (by omega) (by omega) (by
    have : M < ((2 ^ 1000 : Nat) : Int) := by rw [hM]; decide +kernel
    omega)
  have d3 : opB .mod (.int A) (.int M) = some (.int (A % M)) := opB_mod hM0
  have m1 : opB .mul (.int (A % M)) (.int 1) = some (.int (A % M * 1)) := opB_mul lM (.of64 (by omega) (by omega))
  have m0 : opB .mul (.int (A % M)) (.int 0) = some (.int (A % M * 0)) := opB_mul lM (.of64 (by omega) (by omega))
  clear hM
  by_cases hA : 1000000000000000000 ≤ A
  · refine ⟨A % M * 1, (C % 2305843009213693951 * pc_pot3 + pc_pot4 * i * i + pc_pot2) % 2305843009213693921, ?_, r0 _, r1 _⟩
    simp [b_potR, b_law_pot, a1, p60, pM, p18, hA, hM0, m1, m0, s1, s2, s3, d1, d2, d3, -b_abs]
  · refine ⟨A % M * 0, (C % 2305843009213693951 * pc_pot3 + pc_pot4 * i * i + pc_pot2) % 2305843009213693921, ?_, r0 _, r1 _⟩
    simp [b_potR, b_law_pot, a1, p60, pM, p18, hA, hM0, m1, m0, s1, s2, s3, d1, d2, d3, -b_abs]
theorem pot {d e : Nat} {m : List Ob} {ns : List Int} {i : Nat} (hi : i ≤ 2) (h : i < ns.length ∨ (i = 0 ∧ ns = [])) (he : e + 1 ≤ d) : ∃ o s : Int, callF gc 64 fs d n_law_pot [.flst (ns.map .int), .int i] m = some (.ob m.length, m ++ [.lst [.int o, .int s, .int 0]]) ∧ 0 ≤ s ∧ s < 2 ^ 61 := by
  obtain ⟨d, rfl⟩ : ∃ d', d = d' + 1 := ⟨d - 1, by omega⟩
  rw [callS (fn := f_law_pot) rfl rfl rfl]
  have fin3 : ∀ (C : Int), exS gc (callF gc 64 fs d) 64 (b_law_pot.headD .pass) ⟨[.val (.flst (ns.map .int)), .val (.int i), .none, .none, .none], m⟩ = .ok .next ⟨[.val (.flst (ns.map .int)), .val (.int i), .val (.int C), .none, .none], m⟩ → ∃ o s : Int, done (exSs gc (callF gc 64 fs d) 64 b_law_pot ⟨[.val (.flst (ns.map .int)), .val (.int i), .none, .none, .none], m⟩) = some (.ob m.length, m ++ [.lst [.int o, .int s, .int 0]]) ∧ 0 ≤ s ∧ s < 2 ^ 61 := fun C e => by
    obtain ⟨o, s, e2, h0, h1⟩ := pot_rest (cf := callF gc 64 fs d) (m := m) (x0 := .val (.flst (ns.map .int))) (C := C) hi
    refine ⟨o, s, ?_, h0, by omega⟩
    rw [show b_law_pot = b_law_pot.headD .pass :: b_potR from rfl, s_cons, e, rbind_ok]
    show done (exSs gc (callF gc 64 fs d) 64 b_potR _) = _
    rw [e2]
    rfl
  show ∃ o s : Int, done (exSs gc (callF gc 64 fs d) 64 b_law_pot ⟨[.val (.flst (ns.map .int)), .val (.int i), .none, .none, .none], m⟩) = some (.ob m.length, m ++ [.lst [.int o, .int s, .int 0]]) ∧ 0 ≤ s ∧ s < 2 ^ 61
  rcases h with h | ⟨rfl, rfl⟩
  · refine fin3 ns[i] ?_
    have e1 : biT .len [.flst (ns.map Tr.int)] = some (.int ns.length) := by rw [b_lenF, List.length_map]
    have e2 : idxT (.flst (ns.map Tr.int)) (.int (i : Int)) = some (.int ns[i]) := by
      show atI (ns.map Tr.int) (i : Int) = _
      rw [Ev.atI_nat, List.getElem?_map, List.getElem?_eq_getElem h]
      rfl
    generalize ns.map Tr.int = L at e1 e2 ⊢
    generalize hN : (ns.length : Int) = N at e1
    have h' : (i : Int) < N := by omega
    show exS gc (callF gc 64 fs d) 64 (.set 2 (.ite (.cmp .lt (.var 1) (.bi .len [.var 0])) (.idx (.var 0) (.var 1)) (.bin .add (.bin .add (.bin .mod (.bi .int [.bi .sum [.sl (.var 0) .nul (.int 1)]]) (.int 1000003)) (.bin .mul (.int pc_pot1) (.var 1))) (.int pc_pot0)))) _ = _
    generalize ns[i] = C at e2 ⊢
    simp [e1, e2, h', -b_lenF]
  · refine fin3 pc_pot0 ?_
    show exS gc (callF gc 64 fs d) 64 (.set 2 (.ite (.cmp .lt (.var 1) (.bi .len [.var 0])) (.idx (.var 0) (.var 1)) (.bin .add (.bin .add (.bin .mod (.bi .int [.bi .sum [.sl (.var 0) .nul (.int 1)]]) (.int 1000003)) (.bin .mul (.int pc_pot1) (.var 1))) (.int pc_pot0)))) _ = _
    rw [List.map_nil]
    have c1 : 0 < pc_pot1 ∧ pc_pot1 < 1000000 := by decide
    have e2 : slT (.flst []) none (some 1) = some (.lst []) := rfl
    have e3 : biT .sum [.lst []] = some (.int 0) := rfl
    have e4 : opB .mul (.int pc_pot1) (.int 0) = some (.int 0) := by rw [opB_mul (.of64 (by omega) (by omega)) (.of64 (by omega) (by omega))]; simp
    have e5 : opB .mod (.int 0) (.int 1000003) = some (.int 0) := rfl
    simp [e2, e3, e4, e5, isNul, asInt]
theorem pot_ok {o s : Int} {m : List Ob} (h : 0 ≤ s) (h2 : s < 2 ^ 61) : Pot (m ++ [.lst [.int o, .int s, .int 0]]) m.length 0 := ⟨o, s, 0, by simp, h, h2, by omega, by omega⟩
end G
/-! A machine's text: lines, words. -/
namespace Ev
open PySem L2 TL
structure Row where
  a : Nat
  b : Nat
  f : Nat
  s : Bool
noncomputable def sd : Bool → Str
  | true => "right"
  | false => "left"
noncomputable def numS (n : Nat) : Str := Str.ofString (toString ((n : Nat) : Int))
noncomputable def rowWords (r : Row) : List Str := ["row", numS r.a, numS r.b, numS r.f, sd r.s]
noncomputable def rowText (r : Row) : Str := Txt.join " " (rowWords r)
noncomputable def firstLine (m : Nat) : Str := ("figures " : Str) ++ numS m
noncomputable def macLines (m : Nat) (rows : List Row) : List Str := firstLine m :: rows.map rowText
noncomputable def macText (m : Nat) (rows : List Row) : Str := Txt.join "\n" (macLines m rows)
theorem tl_numS (n : Nat) : tl (numS n) = numL n := tl_num n
theorem tl_joinT (y : Str) (l : List Str) : tl (Txt.join y l) = joinL (tl y) (l.map tl) := by rw [join_eq, tl_join]
theorem tl_sp : tl (" " : Str) = [32] := by decide +kernel
theorem tl_nl : tl ("\n" : Str) = [10] := by decide +kernel
theorem mem_joinL {s : Nat} {S : List Nat} (h : s ∉ S) : ∀ {l : List (List Nat)}, (∀ p ∈ l, s ∉ p) → s ∉ joinL S l
  | [], _ => by simp [joinL]
  | [p], hp => by simpa [joinL] using hp p (by simp)
  | p :: q :: r, hp => by
    have ih := mem_joinL h (l := q :: r) fun z hz => hp z (List.mem_cons_of_mem _ hz)
    simp only [joinL, List.mem_append, not_or]
    exact ⟨hp p (by simp), h, ih⟩
theorem row_free {s : Nat} (h : s < 48) (h2 : s ≠ 32) (r : Row) : s ∉ tl (rowText r) := by
  unfold rowText
  rw [tl_joinT, tl_sp]
  refine mem_joinL (by simp; omega) fun p hp => ?_
  obtain ⟨z, hz, rfl⟩ := List.mem_map.mp hp
  simp only [rowWords, List.mem_cons, List.not_mem_nil, or_false] at hz
  have c : ∀ l : List Nat, (l.all fun c => decide (48 ≤ c)) = true → s ∉ l := fun l hl hm => by
    have := of_decide_eq_true (List.all_eq_true.mp hl s hm)
    omega
  rcases hz with rfl | rfl | rfl | rfl | rfl
  · exact c _ (by decide +kernel)
  · rw [tl_numS]; exact numL_free (.inl h)
  · rw [tl_numS]; exact numL_free (.inl h)
  · rw [tl_numS]; exact numL_free (.inl h)
  · cases r.s
    · exact c _ (by decide +kernel)
    · exact c _ (by decide +kernel)
theorem word_free (r : Row) : ∀ p ∈ rowWords r, 32 ∉ tl p := by
  intro z hz
  simp only [rowWords, List.mem_cons, List.not_mem_nil, or_false] at hz
  rcases hz with rfl | rfl | rfl | rfl | rfl
  · decide +kernel
  · rw [tl_numS]; exact numL_free (.inl (by omega))
  · rw [tl_numS]; exact numL_free (.inl (by omega))
  · rw [tl_numS]; exact numL_free (.inl (by omega))
  · cases r.s <;> decide +kernel
theorem split_row (r : Row) : Txt.split (rowText r) " " = rowWords r :=
  split_join (y := " ") (s := 32) (S := []) tl_sp (by decide +kernel) (by simp [rowWords]) (word_free r)
theorem first_join (m : Nat) : firstLine m = Txt.join " " [("figures" : Str), numS m] := by
  refine ext_tl ?_
  unfold firstLine
  rw [tl_joinT, tl_append, tl_sp]
  have e : tl ("figures " : Str) = tl ("figures" : Str) ++ [32] := by decide +kernel
  rw [e, List.append_assoc]
  rfl
theorem split_first (m : Nat) : Txt.split (firstLine m) " " = [("figures" : Str), numS m] := by
  rw [first_join]
  refine split_join (y := " ") (s := 32) (S := []) tl_sp (by decide +kernel) (by simp) fun z hz => ?_
  simp only [List.mem_cons, List.not_mem_nil, or_false] at hz
  rcases hz with rfl | rfl
  · decide +kernel
  · rw [tl_numS]; exact numL_free (.inl (by omega))
theorem split_text (m : Nat) (rows : List Row) : Txt.split (macText m rows) "\n" = macLines m rows := by
  refine split_join (y := "\n") (s := 10) (S := []) tl_nl (by decide +kernel) (by simp [macLines]) fun z hz => ?_
  simp only [macLines, List.mem_cons, List.mem_map] at hz
  rcases hz with rfl | ⟨r, _, rfl⟩
  · unfold firstLine
    rw [tl_append, List.mem_append, tl_numS]
    refine not_or.mpr ⟨by decide +kernel, numL_free (.inl (by omega))⟩
  · exact row_free (by omega) (by omega) r
theorem len_numS {n : Nat} (h : n < 100) : (numS n).length ≤ 2 := by
  rw [len_tl, tl_numS]
  exact numL_len (k := 2) (by omega) (by omega)
theorem len_join (y : Str) (l : List Str) : (Txt.join y l).length ≤ (l.map (·.length)).sum + l.length * y.length := by
  rw [join_eq]
  exact StrLaws.join_length_le y l
noncomputable def Row.small (r : Row) : Prop := r.a < 100 ∧ r.b < 100 ∧ r.f < 100
theorem words_sum {r : Row} (h : r.small) : ((rowWords r).map (·.length)).sum ≤ 14 := by
  obtain ⟨h1, h2, h3⟩ := h
  have := len_numS h1
  have := len_numS h2
  have := len_numS h3
  have e1 : ("row" : Str).length = 3 := by decide +kernel
  have e2 : (sd r.s).length ≤ 5 := by cases r.s <;> decide +kernel
  simp only [rowWords, List.map_cons, List.map_nil, List.sum_cons, List.sum_nil]
  omega
theorem len_row {r : Row} (h : r.small) : (rowText r).length ≤ 19 := by
  have h1 := len_join " " (rowWords r)
  have h2 := words_sum h
  have e : (" " : Str).length = 1 := by decide +kernel
  have e2 : (rowWords r).length = 5 := rfl
  unfold rowText
  rw [e, e2] at h1
  omega
theorem len_first {m : Nat} (h : m < 100) : (firstLine m).length ≤ 10 := by
  unfold firstLine
  rw [Str.length_append]
  have := len_numS h
  have e : ("figures " : Str).length = 8 := by decide +kernel
  omega
theorem lines_sum {m : Nat} {rows : List Row} (h : m < 100) (hr : ∀ r ∈ rows, r.small) : ((macLines m rows).map (·.length)).sum ≤ 10 + 19 * rows.length := by
  have key : ∀ rows : List Row, (∀ r ∈ rows, r.small) → ((rows.map rowText).map (·.length)).sum ≤ 19 * rows.length := by
    intro rows
    induction rows with
    | nil => intro _; simp
    | cons r rows ih =>
      intro hr
      have h1 := len_row (hr r (by simp))
      have h2 := ih fun x hx => hr x (by simp [hx])
      simp only [List.map_cons, List.sum_cons, List.length_cons]
      omega
  have h1 := key rows hr
  have h2 := len_first h
  simp only [macLines, List.map_cons, List.sum_cons]
  omega
theorem len_text {m : Nat} {rows : List Row} (h : m < 100) (hr : ∀ r ∈ rows, r.small) : (macText m rows).length ≤ 20 + 20 * rows.length := by
  have h1 := len_join "\n" (macLines m rows)
  have h2 := lines_sum h hr
  have e : ("\n" : Str).length = 1 := by decide +kernel
  have e2 : (macLines m rows).length = rows.length + 1 := by simp [macLines]
  unfold macText
  rw [e, e2] at h1
  omega
end Ev
/-! A machine made of a text. -/
namespace G
open Ev PySem L2
noncomputable def trRow (r : Row) : Tr := .tup [.int r.a, .int r.b, .int r.f, .str (sd r.s)]
noncomputable def keyR (r : Row) : List Key := [.inl r.a, .inl r.b]
noncomputable def vals (n : Nat) : List Tr := (List.range n).map fun (i : Nat) => Tr.int i
noncomputable def trM (m : Nat) (rows : List Row) : Tr := .ins "Machine" ["own_text", "own_figures", "own_rows", "own_by_rests"] [.str (macText m rows), .int m, .lst (rows.map trRow), .dt (rows.map keyR) (vals rows.length)]
/-- a row that may stand in a machine of m figures -/
structure ROk (m : Nat) (r : Row) : Prop where
  a : r.a < m
  b : r.b < m
  f : r.f < m * m
  n : ¬ (r.a = 0 ∧ r.b = 0)
structure MOk (m : Nat) (rows : List Row) : Prop where
  lo : 2 ≤ m
  hi : m ≤ 9
  ok : ∀ r ∈ rows, ROk m r
  nd : (rows.map keyR).Nodup
  ne : rows ≠ []
  len : rows.length ≤ 80
theorem ROk.small {m : Nat} {r : Row} (h : ROk m r) (hm : m ≤ 9) : r.small := by
  have h1 := h.a
  have h2 := h.b
  have h3 := h.f
  have : m * m ≤ 9 * 9 := Nat.mul_le_mul hm hm
  exact ⟨by omega, by omega, by omega⟩
theorem wholes {d : Nat} {m : List Ob} : (List.range 100).map (fun n => callF gc 64 fs (d + 1) n_whole_in [.str (numS n)] m) = (List.range 100).map fun (n : Nat) => some (Tr.int n, m) := by kernel_rfl
theorem whole_in {d n : Nat} {m : List Ob} (hd : 1 ≤ d) (h : n < 100) : callF gc 64 fs d n_whole_in [.str (numS n)] m = some (.int n, m) := by
  obtain ⟨d, rfl⟩ : ∃ d', d = d' + 1 := ⟨d - 1, by omega⟩
  have e := congrArg (fun l => l[n]?) (wholes (d := d) (m := m))
  simpa [h] using e
theorem integer_in {d n : Nat} {m : List Ob} {lo hi : Int} (hd : 2 ≤ d) (h : n < 100) (h1 : lo ≤ n) (h2 : (n : Int) ≤ hi) : callF gc 64 fs d n_integer_in [.str (numS n), .int lo, .int hi] m = some (.int n, m) := by
  obtain ⟨d, rfl⟩ : ∃ d', d = d' + 1 := ⟨d - 1, by omega⟩
  have e := whole_in (d := d) (m := m) (by omega) h
  rw [callS (fn := f_integer_in) rfl rfl rfl]
  simp [f_integer_in, b_integer_in, e, h1, h2]
theorem figures_in {d n : Nat} {m : List Ob} (hd : 3 ≤ d) (h1 : 2 ≤ n) (h2 : n ≤ 9) : callF gc 64 fs d n_figures_in_3 [.lst [.str "figures", .str (numS n)]] m = some (.int n, m) := by
  obtain ⟨d, rfl⟩ : ∃ d', d = d' + 1 := ⟨d - 1, by omega⟩
  have e := integer_in (d := d) (m := m) (lo := 2) (hi := 9) (by omega) (show n < 100 by omega) (by omega) (by omega)
  rw [callS (fn := f_figures_in_3) rfl rfl rfl]
  simp [f_figures_in_3, b_figures_in_3, e, opC2_of]
theorem row_in {d n : Nat} {m : List Ob} {r : Row} (hd : 3 ≤ d) (h2 : n ≤ 9) (h : ROk n r) : callF gc 64 fs d n_row_in_2 [.int n, .lst ((rowWords r).map .str)] m = some (trRow r, m) := by
  obtain ⟨d, rfl⟩ : ∃ d', d = d' + 1 := ⟨d - 1, by omega⟩
  obtain ⟨q1, q2, q3⟩ := h.small h2
  have ha := h.a
  have hb := h.b
  have hf := h.f
  have e1 := integer_in (d := d) (m := m) (lo := 0) (hi := (n : Int) - 1) (by omega) q1 (by omega) (by omega)
  have e2 := integer_in (d := d) (m := m) (lo := 0) (hi := (n : Int) - 1) (by omega) q2 (by omega) (by omega)
  have e3 := integer_in (d := d) (m := m) (lo := 0) (hi := (n : Int) * n - 1) (by omega) q3 (by omega) (by
        have : ((n * n : Nat) : Int) = (n : Int) * n := by simp
        omega)
  have e4 : opB .mul (.int (n : Int)) (.int (n : Int)) = some (.int ((n : Int) * n)) := opB_mul (.of64 (by omega) (by omega)) (.of64 (by omega) (by omega))
  have e5 : opC2 .nin (.str (sd r.s)) (.tup [.str "left", .str "right"]) = some false := by cases r.s <;> decide +kernel
  have e6 : (decide (r.a = 0) && decide (r.b = 0)) = false := by
    have := h.n
    simp
    omega
  rw [callS (fn := f_row_in_2) rfl rfl rfl]
  simp only [rowWords, trRow, List.map_cons, List.map_nil]
  generalize numS r.a = za at e1
  generalize numS r.b = zb at e2
  generalize numS r.f = zf at e3
  generalize sd r.s = zs at e5
  simp [f_row_in_2, b_row_in_2, e1, e2, e3, e4, e5, e6, opC2_eqT, eqT_pair, manyGo]
theorem forGo_cons {tg : Tg} {f : Sta → Rs Fl} {x : Tr} {xs : List Tr} {s s1 : Sta} {env : List Slot} (h : asg tg x s.env = some env) (h2 : f ⟨env, s.mem⟩ = .ok .next s1) : forGo tg f (x :: xs) s = forGo tg f xs s1 := by
  simp only [forGo, h, h2]
theorem getK_none {κ : Type} [DecidableEq κ] {x : κ} : ∀ {ks : List κ} {vs : List Tr}, x ∉ ks → getK x ks vs = none
  | [], vs, _ => by simp [getK]
  | k :: ks, [], _ => by simp [getK]
  | k :: ks, v :: vs, h => by
    simp only [List.mem_cons, not_or] at h
    simp only [getK, if_neg (Ne.symm h.1), getK_none h.2]
theorem putV_new {κ : Type} [DecidableEq κ] {x : κ} {ks : List κ} {vs : List Tr} {t : Tr} (h : x ∉ ks) : putV ks vs x t = (ks ++ [x], vs ++ [t]) := by
  unfold putV
  rw [if_neg]
  simp only [List.any_eq_true, decide_eq_true_eq, not_exists, not_and]
  intro k hk e
  exact h (e ▸ hk)
theorem keys_row (r : Row) : keysT [.int r.a, .int r.b] = some (keyR r) := rfl
theorem vals_succ (n : Nat) : vals n ++ [.int (n : Int)] = vals (n + 1) := by simp [vals, List.range_succ]
theorem told_step {d n i : Nat} {mem : List Ob} {x0 x1 x2 s8 : Slot} {r : Row} {dn : List Row} (hd : 3 ≤ d) (hn : n ≤ 9) (hr : ROk n r) (hk : keyR r ∉ dn.map keyR) (hl : dn.length ≤ 80) :
    exSs gc (callF gc 64 fs d) 64 l_told_by_3_1 ⟨[x0, x1, x2, .val (.int n), .own (.lst (dn.map trRow)), .own (.dt (dn.map keyR) (vals dn.length)), .val (.int i), .val (.lst ((rowWords r).map .str)), s8], mem⟩ =
        .ok .next ⟨[x0, x1, x2, .val (.int n), .own (.lst ((dn ++ [r]).map trRow)), .own (.dt ((dn ++ [r]).map keyR) (vals (dn ++ [r]).length)), .val (.int i), .val (.lst ((rowWords r).map .str)), .val (trRow r)], mem⟩ := by
  have e1 := row_in (d := d) (m := mem) hd hn hr
  have g1 := getK_none (vs := vals dn.length) hk
  have g2 := putV_new (vs := vals dn.length) (t := .int (dn.length : Int)) hk
  have hl1 : (dn.map trRow).length = dn.length := List.length_map ..
  have hl2 : (dn.map keyR).length = dn.length := List.length_map ..
  have w : vals (dn ++ [r]).length = vals dn.length ++ [.int (dn.length : Int)] := by rw [vals_succ]; simp
  have hl3 : dn.length < 16777216 := by omega
  rw [w, List.map_append, List.map_append, List.map_cons, List.map_nil, List.map_cons, List.map_nil]
  generalize vals dn.length = V at *
  generalize (rowWords r).map Tr.str = WW at *
  generalize dn.map keyR = KK at *
  generalize dn.map trRow = RR at *
  have cin : opC2 .inn (.tup [.int r.a, .int r.b]) (.dt KK V) = some false := by
    show Option.map Option.isSome (Option.map (fun k => getK k KK V) (keysT [.int r.a, .int r.b])) = _
    rw [keys_row, Option.map_some, Option.map_some, g1]
    rfl
  have csl : slT (trRow r) none (some 2) = some (.tup [.int r.a, .int r.b]) := rfl
  have pr : (trRow r).pure = true := rfl
  have dr : ∀ s : Sta, s.deref (trRow r) = trRow r := fun s => rfl
  have nr : opC2 .isN (trRow r) .non = some false := rfl
  generalize trRow r = TR at *
  simp [l_told_by_3_1, e1, cin, csl, pr, dr, nr, keys_row, g2, d_own, isNul, asInt, hl1, hl2, hl3]
theorem told_loop {d n : Nat} {mem : List Ob} {x0 x1 x2 : Slot} (hd : 3 ≤ d) (hn : n ≤ 9) : ∀ (rest : List (Nat × Row)) (dn : List Row) (s6 s7 s8 : Slot), (∀ p ∈ rest, ROk n p.2) → ((dn ++ rest.map (·.2)).map keyR).Nodup → dn.length + rest.length ≤ 80 →
    ∃ y6 y7 y8, forGo (.tp [.nm 6, .nm 7]) (exSs gc (callF gc 64 fs d) 64 l_told_by_3_1) (rest.map fun p => .tup [.int p.1, .lst ((rowWords p.2).map .str)]) ⟨[x0, x1, x2, .val (.int n), .own (.lst (dn.map trRow)), .own (.dt (dn.map keyR) (vals dn.length)), s6, s7, s8], mem⟩ =
      .ok .next ⟨[x0, x1, x2, .val (.int n), .own (.lst ((dn ++ rest.map (·.2)).map trRow)), .own (.dt ((dn ++ rest.map (·.2)).map keyR) (vals (dn.length + rest.length))), y6, y7, y8], mem⟩
  | [], dn, s6, s7, s8, _, _, _ => ⟨s6, s7, s8, by simp [forGo]⟩
  | (i, r) :: rest, dn, s6, s7, s8, hr, nd, hl => by
    rw [List.length_cons] at hl
    have hk : keyR r ∉ dn.map keyR := by
      rw [List.map_append, List.nodup_append] at nd
      intro h
      exact nd.2.2 _ h _ (by simp) rfl
    obtain ⟨y6, y7, y8, hy⟩ := told_loop (mem := mem) (x0 := x0) (x1 := x1) (x2 := x2) hd hn rest (dn ++ [r]) (.val (.int i)) (.val (.lst ((rowWords r).map .str))) (.val (trRow r)) (fun p hp => hr p (by simp [hp])) (by simpa using nd) (by simp; omega)
    refine ⟨y6, y7, y8, ?_⟩
    have step := told_step (i := i) (mem := mem) (x0 := x0) (x1 := x1) (x2 := x2) (s8 := s8) hd hn (hr (i, r) (by simp)) hk (by omega)
    have ha : asg (.tp [.nm 6, .nm 7]) (.tup [.int i, .lst ((rowWords r).map .str)]) [x0, x1, x2, .val (.int n), .own (.lst (dn.map trRow)), .own (.dt (dn.map keyR) (vals dn.length)), s6, s7, s8] = some [x0, x1, x2, .val (.int n), .own (.lst (dn.map trRow)), .own (.dt (dn.map keyR) (vals dn.length)), .val (.int i), .val (.lst ((rowWords r).map .str)), s8] := by simp [asg, asgs]
    have z : dn.length + 1 + rest.length = dn.length + (rest.length + 1) := by omega
    rw [List.map_cons, forGo_cons ha step, hy]
    simp [z]
theorem split_sp {z : Str} (h : z.length ≤ 100000) : mtT .split (.str z) [.str " "] = some (.lst ((Txt.split z " ").map .str)) := by
  have e : ((" " : Str).length == 0) = false := by decide +kernel
  simp only [mtT]
  rw [if_pos ⟨e, by rw [Ev.sizeLine_eq]; omega⟩]
theorem split_nl {z : Str} (h : z.length ≤ 100000) : mtT .split (.str z) [.str "\n"] = some (.lst ((Txt.split z "\n").map .str)) := by
  have e : (("\n" : Str).length == 0) = false := by decide +kernel
  simp only [mtT]
  rw [if_pos ⟨e, by rw [Ev.sizeLine_eq]; omega⟩]
noncomputable def spT : Tr → Option Tr
  | .str z => some (.lst ((Txt.split z " ").map Tr.str))
  | _ => none
theorem spT_map : ∀ l : List Str, (l.map Tr.str).filterMap spT = l.map fun z => Tr.lst ((Txt.split z " ").map .str)
  | [] => rfl
  | z :: l => by
    rw [List.map_cons, List.filterMap_cons, List.map_cons, spT_map l]
    rfl
theorem told_comp {cf : CF} {mem : List Ob} {lines : List Str} {x0 : Slot} (h : ∀ z ∈ lines, z.length ≤ 100000) (hl : lines.length ≤ 100) :
    compGo (compF (.nm 2) [x0, .none, .none, .none, .none, .none, .none, .none, .none] (kCond gc cf .nul) (kElt gc cf e_told_by_3_0)) (lines.map .str) mem [] = some (lines.map fun z => Tr.lst ((Txt.split z " ").map .str), mem) := by
  rw [compGo_map (g := spT) (fun x hx => ?_) (by simp [Ev.sizeLine_eq]; omega), List.nil_append, spT_map]
  obtain ⟨z, hz, rfl⟩ := List.mem_map.mp hx
  show _ = some (some (Tr.lst ((Txt.split z " ").map .str)), mem)
  have e1 := split_sp (h z hz)
  generalize Txt.split z " " = W at e1 ⊢
  simp [compF, e_told_by_3_0, e1, recvOk, isNul, asg]
theorem enum_rows (rows : List Row) (i : Nat) : List.zipWith (fun (i : Nat) x => Tr.tup [.int i, x]) (List.range' i rows.length) (rows.map fun r => Tr.lst ((rowWords r).map .str)) = ((List.range' i rows.length).zip rows).map fun p => .tup [.int p.1, .lst ((rowWords p.2).map .str)] := by
  induction rows generalizing i with
  | nil => rfl
  | cons r rows ih =>
    rw [List.length_cons, List.range'_succ, List.map_cons, List.zipWith_cons_cons, List.zip_cons_cons, List.map_cons, ih]
theorem zip_snd (rows : List Row) (i : Nat) : ((List.range' i rows.length).zip rows).map (·.2) = rows := by
  induction rows generalizing i with
  | nil => rfl
  | cons r rows ih =>
    rw [List.length_cons, List.range'_succ, List.zip_cons_cons, List.map_cons, ih]
theorem zip_len (rows : List Row) (i : Nat) : ((List.range' i rows.length).zip rows).length = rows.length := by simp
theorem told_by {d n : Nat} {mem : List Ob} {rows : List Row} (hd : 5 ≤ d) (h : MOk n rows) : callF gc 64 fs d n_told_by_3 [.str (macText n rows)] mem = some (.tup [.int n, .lst (rows.map trRow), .dt (rows.map keyR) (vals rows.length)], mem) := by
  obtain ⟨d, rfl⟩ : ∃ d', d = d' + 1 := ⟨d - 1, by omega⟩
  have hs : ∀ r ∈ rows, r.small := fun r hr => (h.ok r hr).small h.hi
  have hl := h.len
  have h9 := h.hi
  have lt := len_text (m := n) (by omega) hs
  have e1 := split_nl (z := macText n rows) (by omega)
  rw [split_text] at e1
  have e2 := told_comp (cf := callF gc 64 fs d) (mem := mem) (lines := macLines n rows) (x0 := .val (.str (macText n rows))) (fun z hz => by
    simp only [macLines, List.mem_cons, List.mem_map] at hz
    rcases hz with rfl | ⟨r, hr, rfl⟩
    · have := len_first (m := n) (by omega); omega
    · have := len_row (hs r hr); omega) (by simp [macLines]; omega)
  have e3 := figures_in (d := d) (m := mem) (by omega) h.lo h.hi
  obtain ⟨y6, y7, y8, e4⟩ := told_loop (d := d) (n := n) (mem := mem) (x0 := .val (.str (macText n rows))) (x1 := .val (.lst ((macLines n rows).map fun z => .lst ((Txt.split z " ").map .str)))) (x2 := .none) (by omega) h.hi ((List.range' 0 rows.length).zip rows) [] .none .none .none (fun p hp => h.ok _ (by
    have := List.mem_map_of_mem (f := Prod.snd) hp
    rwa [zip_snd] at this)) (by rw [List.nil_append, zip_snd]; exact h.nd) (by rw [zip_len]; simp; omega)
  rw [zip_snd, zip_len, List.nil_append, List.map_nil, List.map_nil, ← enum_rows, List.length_nil, Nat.zero_add, ← List.range_eq_range'] at e4
  have ml : (macLines n rows).map (fun z => Tr.lst ((Txt.split z " ").map .str)) = .lst [.str "figures", .str (numS n)] :: rows.map fun r => .lst ((rowWords r).map .str) := by
    simp only [macLines, List.map_cons, split_first, List.map_map, List.map_nil]
    congr 1
    refine List.map_congr_left fun r _ => ?_
    show Tr.lst ((Txt.split (rowText r) " ").map .str) = _
    rw [split_row]
  rw [ml] at e2 e4
  have hne : eqT (.lst (rows.map trRow)) (.lst []) = some false := by
    rw [eqD_nil (n := 2) ?_ (by omega)]
    · have := h.ne
      cases rows with
      | nil => exact absurd rfl this
      | cons _ _ => rfl
    · rw [gds_iff]
      intro t ht
      obtain ⟨r, _, rfl⟩ := List.mem_map.mp ht
      cases hs : r.s <;> simp [trRow, gd, gds, sd, hs] <;> decide +kernel
  have hz : (List.range rows.length).zipWith (fun (i : Nat) x => Tr.tup [.int i, x]) (rows.map fun r => Tr.lst ((rowWords r).map .str)) = enumT (rows.map fun r => Tr.lst ((rowWords r).map .str)) := by
    unfold enumT
    rw [List.length_map]
  rw [hz] at e4
  have v0 : vals 0 = [] := rfl
  rw [v0] at e4
  rw [callS (fn := f_told_by_3) rfl rfl rfl]
  have ln : ((rows.map fun r => Tr.lst ((rowWords r).map .str)).length : Int) = rows.length := by simp
  generalize (rows.map fun r => Tr.lst ((rowWords r).map .str)) = L at *
  generalize vals rows.length = V at *
  generalize rows.map trRow = RR at *
  generalize rows.map keyR = KK at *
  generalize (macLines n rows).map Tr.str = ML at *
  generalize macText n rows = T at *
  generalize numS n = NS at *
  have hi : items 3 [.lst L] = some (enumT L) := rfl
  have hc : cutT (Tr.lst [.str "figures", .str NS] :: L) (some 1) none = L := by
    unfold cutT
    simp [HT.sIx]
  have hsl : slT (.lst (Tr.lst [.str "figures", .str NS] :: L)) (some 1) none = some (.lst L) := by
    show some (Tr.lst (cutT _ (some 1) none)) = _
    rw [hc]
  have hx : idxT (.lst (Tr.lst [.str "figures", .str NS] :: L)) (.int 0) = some (.lst [.str "figures", .str NS]) := by rw [idxT_l0]; rfl
  have hm : items 0 [.lst ML] = some ML := rfl
  generalize (Tr.lst [.str "figures", .str NS] :: L) = LL at *
  simp [f_told_by_3, b_told_by_3, e1, e2, e3, e4, hi, hsl, hx, hm, hne, recvOk, isNul, asInt, manyGo, ownOb, wipeE, Slot.lock, dspT, d_own]
theorem machine {d n : Nat} {mem : List Ob} {rows : List Row} (hd : 7 ≤ d) (h : MOk n rows) : callF gc 64 fs d n_Machine_3 [.str (macText n rows)] mem = some (trM n rows, mem ++ [.gone]) := by
  obtain ⟨d, rfl⟩ : ∃ d', d = d' + 2 := ⟨d - 2, by omega⟩
  have e := told_by (d := d) (mem := mem ++ [.ins "Machine" [] []]) (by omega) h
  have hg : ∀ x : Ob, (mem ++ [x])[mem.length]? = some x := fun x => by simp
  have hs : ∀ x y : Ob, (mem ++ [x]).set mem.length y = mem ++ [y] := fun x y => by simp
  rw [callC (fn := f_Machine_3) (c := "Machine") rfl rfl rfl]
  unfold trM
  generalize vals rows.length = V at *
  generalize rows.map trRow = RR at *
  generalize rows.map keyR = KK at *
  generalize macText n rows = T at *
  have s1 : ∀ t : Tr, setF [] [] ("own_text" : Str) t = ([("own_text" : Str)], [t]) := fun t => rfl
  have s2 : ∀ t u : Tr, setF [("own_text" : Str)] [u] ("own_figures" : Str) t = ([("own_text" : Str), ("own_figures" : Str)], [u, t]) := fun t u => rfl
  have s3 : ∀ t u v : Tr, setF [("own_text" : Str), ("own_figures" : Str)] [u, v] ("own_rows" : Str) t = ([("own_text" : Str), ("own_figures" : Str), ("own_rows" : Str)], [u, v, t]) := fun t u v => rfl
  have s4 : ∀ t u v w : Tr, setF [("own_text" : Str), ("own_figures" : Str), ("own_rows" : Str)] [u, v, w] ("own_by_rests" : Str) t = ([("own_text" : Str), ("own_figures" : Str), ("own_rows" : Str), ("own_by_rests" : Str)], [u, v, w, t]) := fun t u v w => rfl
  simp [f_Machine_3, b_Machine_3, e, hg, hs, asg, asgs, doneC, s1, s2, s3, s4]
end G
/-! The law's own machine, its text. -/
namespace G
open Ev PySem L2
noncomputable def trO (m : Nat) (rows : List Row) : Tr := .dk [.inr "m", .inr "rows"] [.int m, .lst (rows.map trRow)]
theorem str_num {n : Nat} (h : n < 100) : biT .strOf [.int (n : Int)] = some (.str (numS n)) := by
  have : (n : Int).natAbs.log2 < 1920 := log2_le_of (by omega) (Nat.lt_of_lt_of_le (show n < 2 ^ 7 by omega) (Nat.pow_le_pow_right (by omega) (by omega)))
  exact if_pos this
theorem trO_m (m : Nat) (rows : List Row) : idxT (trO m rows) (.str "m") = some (.int m) := rfl
theorem trO_rows (m : Nat) (rows : List Row) : idxT (trO m rows) (.str "rows") = some (.lst (rows.map trRow)) := by
  rfl
theorem strsOf_map : ∀ l : List Str, strsOf (l.map Tr.str) = some l
  | [] => rfl
  | z :: l => by
    rw [List.map_cons]
    simp only [strsOf, strsOf_map l]
theorem join_of {a : Str} {l : List Str} (h : (l.map (·.length)).sum + l.length * a.length ≤ 16777216) : mtT .join (.str a) [.lst (l.map Tr.str)] = some (.str (Txt.join a l)) := by
  simp only [mtT, joinT, strsOf_map]
  rw [if_pos h]
theorem join_row {r : Row} (h : r.small) : mtT .join (.str " ") [.lst ((rowWords r).map Tr.str)] = some (.str (rowText r)) := by
  refine join_of ?_
  have h2 := words_sum h
  have e : (" " : Str).length = 1 := by decide +kernel
  have e2 : (rowWords r).length = 5 := rfl
  rw [e, e2]
  omega
theorem join_text {m : Nat} {rows : List Row} (h : m < 100) (hr : ∀ r ∈ rows, r.small) (hl : rows.length ≤ 80) : mtT .join (.str "\n") [.lst ((macLines m rows).map Tr.str)] = some (.str (macText m rows)) := by
  refine join_of ?_
  have h2 := lines_sum h hr
  have e : ("\n" : Str).length = 1 := by decide +kernel
  have e2 : (macLines m rows).length = rows.length + 1 := by simp [macLines]
  rw [e, e2]
  omega
theorem text_row {cf : CF} {mem : List Ob} {x0 x1 x2 : Slot} {r : Row} (h : r.small) : compF (.nm 3) [x0, x1, x2, .none] (kCond gc cf .nul) (kElt gc cf e_law_machine_text_1) (trRow r) mem = some (some (.str (rowText r)), mem) := by
  have e1 := join_row h
  have n1 := str_num h.1
  have n2 := str_num h.2.1
  have n3 := str_num h.2.2
  simp only [rowWords, List.map_cons, List.map_nil] at e1
  have sl : ∀ a b c e : Tr, slT (.tup [a, b, c, e]) none (some 3) = some (.tup [a, b, c]) := fun a b c e => rfl
  have it : ∀ l : List Tr, items 0 [.tup l] = some l := fun l => rfl
  unfold trRow
  generalize rowText r = RT at *
  generalize numS r.a = A at *
  generalize numS r.b = B at *
  generalize numS r.f = C at *
  generalize sd r.s = S at *
  generalize (r.a : Int) = ia at *
  generalize (r.b : Int) = ib at *
  generalize (r.f : Int) = ic at *
  have inner : ∀ env : List Slot, env.length = 4 → compGo (compF (.nm 2) env (kCond gc cf .nul) (kElt gc cf e_law_machine_text_0)) [.int ia, .int ib, .int ic] mem [] = some ([.str A, .str B, .str C], mem) := fun env he => by
    match env, he with
    | [a, b, c, e], _ => simp [compGo, compF, asg, e_law_machine_text_0, n1, n2, n3, isNul, -b_strI]
  have a1 : opB .add (.lst [.str "row"]) (.lst [.str A, .str B, .str C]) = some (.lst [.str "row", .str A, .str B, .str C]) := opB_addL (by rw [Ev.sizeLine_eq]; simp)
  have a2 : opB .add (.lst [.str "row", .str A, .str B, .str C]) (.lst [.str S]) = some (.lst [.str "row", .str A, .str B, .str C, .str S]) := opB_addL (by rw [Ev.sizeLine_eq]; simp)
  simp [compF, asg, e_law_machine_text_1, e1, sl, it, inner, a1, a2, recvOk, isNul, asInt, wipeE]
theorem machine_text {d n : Nat} {mem : List Ob} {rows : List Row} (hd : 1 ≤ d) (h : MOk n rows) : callF gc 64 fs d n_law_machine_text [trO n rows] mem = some (.str (macText n rows), mem) := by
  obtain ⟨d, rfl⟩ : ∃ d', d = d' + 1 := ⟨d - 1, by omega⟩
  have hs : ∀ r ∈ rows, r.small := fun r hr => (h.ok r hr).small h.hi
  have hl := h.len
  have h9 := h.hi
  have e1 := join_text (m := n) (rows := rows) (by omega) hs hl
  have e2 : compGo (compF (.nm 3) [.val (trO n rows), .none, .none, .none] (kCond gc (callF gc 64 fs d) .nul) (kElt gc (callF gc 64 fs d) e_law_machine_text_1)) (rows.map trRow) mem [] = some ((rows.map rowText).map .str, mem) := by
    have key : ∀ (rest : List Row) (acc : List Tr), (∀ r ∈ rest, r.small) → acc.length + rest.length ≤ 100 → compGo (compF (.nm 3) [.val (trO n rows), .none, .none, .none] (kCond gc (callF gc 64 fs d) .nul) (kElt gc (callF gc 64 fs d) e_law_machine_text_1)) (rest.map trRow) mem acc = some (acc ++ (rest.map rowText).map .str, mem) := by
      intro rest
      induction rest with
      | nil => intro acc _ _; simp [compGo]
      | cons r rest ih =>
        intro acc hr hl
        rw [List.length_cons] at hl
        have := text_row (cf := callF gc 64 fs d) (mem := mem) (x0 := .val (trO n rows)) (x1 := .none) (x2 := .none) (hr r (by simp))
        rw [List.map_cons, compGo, this]
        dsimp only
        rw [if_pos (by rw [Ev.sizeLine_eq]; omega), ih _ (fun x hx => hr x (by simp [hx])) (by simp; omega)]
        simp
    have := key rows [] hs (by simp; omega)
    rw [List.nil_append] at this
    exact this
  have f1 : opB .add (.str "figures ") (.str (numS n)) = some (.str (firstLine n)) := opB_addS (by
    have := len_numS (n := n) (by omega)
    have e : ("figures " : Str).length = 8 := by decide +kernel
    rw [e, Ev.sizeLine_eq]
    omega)
  have n1 := str_num (n := n) (by omega)
  have r1 := trO_m n rows
  have r2 := trO_rows n rows
  have po : (trO n rows).pure = true := rfl
  have lo : ∀ s : Sta, s.deref (trO n rows) = trO n rows := fun s => rfl
  have ob : ∀ (y : Tr) (s2 : Sta), kIdx3 y s2 (trO n rows) = Rs.of (idxT (trO n rows) (s2.deref y)) s2 := fun y s2 => rfl
  have hm : items 0 [.lst (rows.map trRow)] = some (rows.map trRow) := rfl
  have hll : ((rows.map rowText).map Tr.str).length ≤ 80 := by simpa using hl
  have hl0 : (rows.map trRow).length ≤ 80 := by simpa using hl
  simp only [macLines, List.map_cons] at e1
  rw [callS (fn := f_law_machine_text) rfl rfl rfl]
  generalize (rows.map rowText).map Tr.str = RT at *
  generalize rows.map trRow = RR at *
  generalize macText n rows = T at *
  generalize firstLine n = FL at *
  generalize numS n = NS at *
  generalize trO n rows = O at *
  have h2 : 1 + RT.length ≤ 16777216 := by omega
  simp [f_law_machine_text, b_law_machine_text, e1, e2, f1, n1, r1, r2, po, lo, ob, hm, h2, recvOk, isNul, wipeE, Slot.lock, d_own, -b_strI, -kIdx3]
end G
/-! What is drawn: one of some, some of a pool, a machine. -/
namespace G
open Ev PySem L2
theorem of_spec {d n k : Nat} {m : List Ob} {l : List Tr} (h : Pot m n k) (hk : k < 1073741824) (hl : l ≠ []) (hp : l.all Tr.pure = true) (hn : l.length < 1000) (hd : 2 ≤ d) :
    ∃ (t : Tr) (m' : List Ob), t ∈ l ∧ callF gc 64 fs d n_law_of [.ob n, .lst l] m = some (t, m') ∧ Pot m' n (k + 1) := by
  obtain ⟨d, rfl⟩ : ∃ d', d = d' + 1 := ⟨d - 1, by omega⟩
  have hl0 : 0 < l.length := List.length_pos_iff.mpr hl
  obtain ⟨j, L, e, h0, h1, P⟩ := take_spec (d := d) (e := 0) (u := (l.length : Int)) h hk (by omega) (by omega) (by omega)
  obtain ⟨i, rfl⟩ : ∃ i : Nat, j = i := ⟨j.toNat, by omega⟩
  have hi : i < l.length := by omega
  have e2 : idxT (.lst l) (.int (i : Int)) = some l[i] := by
    rw [show idxT (.lst l) (.int (i : Int)) = atI l i from rfl, Ev.atI_nat]
    simp [hi]
  have hpi : Tr.pure l[i] = true := by
    rw [List.all_eq_true] at hp
    exact hp _ (by simp)
  refine ⟨l[i], _, by simp, ?_, P⟩
  generalize m.set n (.lst L) = m' at e ⊢
  rw [callS (fn := f_law_of) rfl rfl rfl]
  simp [f_law_of, b_law_of, e, e2, hpi]
theorem ixN_nat {n j : Nat} (h : j < n) : ixN n (j : Int) = some j := by
  unfold ixN
  simp [h]
theorem erase_perm {α : Type} {t : α} : ∀ {l : List α} {i : Nat}, l[i]? = some t → (t :: l.eraseIdx i).Perm l
  | [], i, h => by simp at h
  | a :: l, 0, h => by
    simp at h
    subst h
    simp
  | a :: l, i + 1, h => by
    simp only [List.getElem?_cons_succ] at h
    rw [List.eraseIdx_cons_succ]
    exact (List.Perm.swap a t _).trans (List.Perm.cons a (erase_perm h))
theorem some_loop {d n : Nat} {x1 x2 : Slot} (hd : 1 ≤ d) : ∀ (xs : List Tr) (stock found : List Tr) (m : List Ob) (k : Nat) (s5 : Slot), Pot m n k → k + xs.length < 1073741824 → xs.length ≤ stock.length → stock.length + found.length ≤ 100 → stock.all Tr.pure = true → xs.all Tr.pure = true →
    ∃ (stock' found' : List Tr) (m' : List Ob) (s5' : Slot), forGo (.nm 5) (exSs gc (callF gc 64 fs d) 64 l_law_some_0) xs ⟨[.val (.ob n), x1, x2, .own (.lst stock), .own (.lst found), s5], m⟩ = .ok .next ⟨[.val (.ob n), x1, x2, .own (.lst stock'), .own (.lst found'), s5'], m'⟩ ∧ (found' ++ stock').Perm (found ++ stock) ∧ found'.length = found.length + xs.length ∧ Pot m' n (k + xs.length)
  | [], stock, found, m, k, s5, P, _, _, _, _, _ => ⟨stock, found, m, s5, by simp [forGo], List.Perm.refl _, by simp, by simpa using P⟩
  | x :: xs, stock, found, m, k, s5, P, hk, hl, hs, hp, hx => by
    rw [List.length_cons] at hk hl
    obtain ⟨j, L, e, h0, h1, P1⟩ := take_spec (d := d) (e := 0) (u := (stock.length : Int)) P (by omega) (by omega) (by omega) (by omega)
    obtain ⟨i, rfl⟩ : ∃ i : Nat, j = i := ⟨j.toNat, by omega⟩
    have hi : i < stock.length := by omega
    have e2 := ixN_nat hi
    obtain ⟨t, e3⟩ : ∃ t, stock[i]? = some t := ⟨stock[i], by simp [hi]⟩
    have hpi : Tr.pure t = true := by
      rw [List.all_eq_true] at hp
      exact hp _ (List.mem_of_getElem? e3)
    have hxp : x.pure = true := by simp at hx; exact hx.1
    have hlen : (stock.eraseIdx i).length = stock.length - 1 := by rw [List.length_eraseIdx, if_pos hi]
    have hpe : (stock.eraseIdx i).all Tr.pure = true := by
      rw [List.all_eq_true] at hp ⊢
      exact fun y hy => hp y (List.mem_of_mem_eraseIdx hy)
    obtain ⟨stock', found', m', s5', f1, f2, f3, f4⟩ := some_loop (x1 := x1) (x2 := x2) hd xs (stock.eraseIdx i) (found ++ [t]) _ (k + 1) (.val x) P1 (by omega) (by omega) (by rw [hlen]; simp; omega) hpe (by simp at hx ⊢; exact hx.2)
    refine ⟨stock', found', m', s5', ?_, ?_, by rw [f3]; simp; omega, by rw [List.length_cons, show k + (xs.length + 1) = k + 1 + xs.length by omega]; exact f4⟩
    · generalize m.set n (.lst L) = m1 at e f1
      have step : exSs gc (callF gc 64 fs d) 64 l_law_some_0 ⟨[.val (.ob n), x1, x2, .own (.lst stock), .own (.lst found), .val x], m⟩ = .ok .next ⟨[.val (.ob n), x1, x2, .own (.lst (stock.eraseIdx i)), .own (.lst (found ++ [t])), .val x], m1⟩ := by
        have hl1 : stock.length ≤ 16777216 := by omega
        have hl2 : found.length < 16777216 := by omega
        simp [l_law_some_0, e, e2, e3, hpi, hl1, hl2, d_own]
      have ha : asg (.nm 5) x [.val (.ob n), x1, x2, .own (.lst stock), .own (.lst found), s5] = some [.val (.ob n), x1, x2, .own (.lst stock), .own (.lst found), .val x] := by simp [asg, hxp]
      rw [forGo_cons ha step, f1]
    · refine f2.trans ?_
      rw [List.append_assoc, List.singleton_append]
      exact List.Perm.append_left _ (erase_perm e3)
theorem rgT_len (a b : Int) : (rgT a b).length = (b - a).toNat := by simp [rgT]
theorem rgT_pure (a b : Int) : (rgT a b).all Tr.pure = true := by
  rw [List.all_eq_true]
  intro x hx
  obtain ⟨i, _, rfl⟩ := List.mem_map.mp hx
  rfl
theorem some_spec {d n k many : Nat} {m : List Ob} {pool : List Tr} (h : Pot m n k) (hk : k + many < 1073741824) (hm : many ≤ pool.length) (hl : pool.length ≤ 100) (hp : pool.all Tr.pure = true) (hd : 2 ≤ d) :
    ∃ (found rest : List Tr) (m' : List Ob), callF gc 64 fs d n_law_some [.ob n, .lst pool, .int many] m = some (.lst found, m') ∧ (found ++ rest).Perm pool ∧ found.length = many ∧ Pot m' n (k + many) := by
  obtain ⟨d, rfl⟩ : ∃ d', d = d' + 1 := ⟨d - 1, by omega⟩
  have hr : (rgT 0 (many : Int)).length = many := by rw [rgT_len]; omega
  obtain ⟨stock', found', m', s5', f1, f2, f3, f4⟩ := some_loop (d := d) (n := n) (x1 := .val (.lst pool)) (x2 := .val (.int many)) (by omega) (rgT 0 many) pool [] m k .none h (by rw [hr]; omega) (by rw [hr]; omega) (by simpa using hl) hp (rgT_pure _ _)
  rw [hr] at f3 f4
  refine ⟨found', stock', m', ?_, by simpa using f2, by simpa using f3, f4⟩
  have hi : items 1 [.int (many : Int)] = some (rgT 0 many) := by
    simp only [items]
    exact if_pos (in62_of (by omega))
  rw [callS (fn := f_law_some) rfl rfl rfl]
  generalize rgT 0 (many : Int) = R at *
  simp [f_law_some, b_law_some, hi, f1, manyGo, ownOb]
theorem cells {d : Nat} {m : List Ob} {ns : List Int} (hd : 1 ≤ d) : ∃ c : Nat, c ≤ 3 ∧ (∀ i < c, i < ns.length ∨ (i = 0 ∧ ns = [])) ∧ callF gc 64 fs d n_law_cells [.flst (ns.map .int), .int 3] m = some (.lst (rgT 0 c), m) := by
  obtain ⟨d, rfl⟩ : ∃ d', d = d' + 1 := ⟨d - 1, by omega⟩
  have hl : (ns.map Tr.int).length = ns.length := List.length_map ..
  obtain ⟨c, hc, h3, hi⟩ : ∃ c : Nat, (c : Int) = (if (if (ns.length : Int) < 3 then (ns.length : Int) else 3) > 1 then (if (ns.length : Int) < 3 then (ns.length : Int) else 3) else 1) ∧ c ≤ 3 ∧ ∀ i < c, i < ns.length ∨ (i = 0 ∧ ns = []) := by
    have e0 : ns.length = 0 → ns = [] := List.length_eq_zero_iff.mp
    refine ⟨max 1 (min ns.length 3), ?_, by omega, fun i hi => ?_⟩
    · split <;> split at * <;> omega
    · by_cases h : ns.length = 0
      · exact .inr ⟨by omega, e0 h⟩
      · exact .inl (by omega)
  have key : biT .listRg [.int (if (if (ns.length : Int) < 3 then (ns.length : Int) else 3) > 1 then (if (ns.length : Int) < 3 then (ns.length : Int) else 3) else 1)] = some (.lst (rgT 0 c)) := by
    rw [← hc]
    simp only [biT]
    exact if_pos (by
      rw [Bool.and_eq_true]
      exact ⟨decide_eq_true (by omega), Nat.ble_eq_true_of_le (by omega)⟩)
  refine ⟨c, h3, hi, ?_⟩
  generalize rgT 0 (c : Int) = R at key ⊢
  rw [callS (fn := f_law_cells) rfl rfl rfl]
  generalize ns.map Tr.int = L at hl
  have e1 : biT .len [.flst L] = some (.int ns.length) := by rw [b_lenF, hl]
  have e2 := b_min2 3 (ns.length : Int)
  have e3 := b_max2 1 (if (ns.length : Int) < 3 then (ns.length : Int) else 3)
  generalize (if (ns.length : Int) < 3 then (ns.length : Int) else 3) = A at e2 e3 key
  generalize (if A > 1 then A else 1) = B at e3 key
  simp [f_law_cells, b_law_cells, e1, e2, e3, key, -b_lenF, -b_min2, -b_max2]
/-! ### a drawn machine -/
theorem draw_side {d n k : Nat} {m : List Ob} (h : Pot m n k) (hk : k < 1073741824) (hd : 2 ≤ d) : ∃ (s : Bool) (m' : List Ob), callF gc 64 fs d n_law_of [.ob n, .lst [.str "left", .str "right"]] m = some (.str (sd s), m') ∧ Pot m' n (k + 1) := by
  obtain ⟨t, m', ht, e, P⟩ := of_spec (d := d) (l := [.str "left", .str "right"]) h hk (by simp) rfl (by simp) hd
  simp at ht
  rcases ht with rfl | rfl
  · exact ⟨false, m', e, P⟩
  · exact ⟨true, m', e, P⟩
theorem draw_nat {d n k : Nat} {m : List Ob} {l : List Nat} (h : Pot m n k) (hk : k < 1073741824) (hl : l ≠ []) (hn : l.length < 1000) (hd : 2 ≤ d) : ∃ (v : Nat) (m' : List Ob), v ∈ l ∧ callF gc 64 fs d n_law_of [.ob n, .lst (l.map fun (v : Nat) => .int v)] m = some (.int v, m') ∧ Pot m' n (k + 1) := by
  obtain ⟨t, m', ht, e, P⟩ := of_spec (d := d) (l := l.map fun (v : Nat) => .int v) h hk (by simpa using hl) (by simp) (by simpa using hn) hd
  obtain ⟨v, hv, rfl⟩ := List.mem_map.mp ht
  exact ⟨v, m', hv, e, P⟩
end G
/-! A drawn machine. -/
namespace G
open Ev PySem L2
theorem Pot.mono {m : List Ob} {n k k' : Nat} (h : Pot m n k) (hk : k ≤ k') : Pot m n k' := by
  obtain ⟨o, s, c, h1, h2, h3, h4, h5⟩ := h.ex
  exact ⟨o, s, c, h1, h2, h3, h4, by omega⟩
theorem keyR_of (rows : List Row) : rows.map keyR = (rows.map fun r => (r.a, r.b)).map fun p => [.inl (p.1 : Int), .inl (p.2 : Int)] := by
  rw [List.map_map]
  rfl
theorem key_inj : Function.Injective (fun p : Nat × Nat => ([.inl (p.1 : Int), .inl (p.2 : Int)] : List Key)) := fun p q h => by
  simp at h
  obtain ⟨h1, h2⟩ := h
  exact Prod.ext (by omega) (by omega)
theorem nodup_keys {rows : List Row} (h : (rows.map fun r => (r.a, r.b)).Nodup) : (rows.map keyR).Nodup := by
  rw [keyR_of]
  exact List.Pairwise.map _ (fun a b hab e => hab (key_inj e)) h
end G
/-! Which row goes, what follows. -/
namespace G
open Ev PySem L2
/-! the program's -/
end G
/-! The next pair. -/
namespace G
open Ev PySem L2
noncomputable def Bd (B : Nat) (p : Int × Int) : Prop := p.1.natAbs < 2 ^ B ∧ p.2.natAbs < 2 ^ B
theorem Bd.mono {B C : Nat} {p : Int × Int} (h : Bd B p) (hc : B ≤ C) : Bd C p := by
  have := Nat.pow_le_pow_right (show 0 < 2 by omega) hc
  exact ⟨by have := h.1; omega, by have := h.2; omega⟩
end G
/-! The checks; goes, follows; the law's own. -/
namespace G
open Ev PySem L2
/-! ### the law's own -/
end G
/-! The law's own next pair; runs. -/
namespace G
open Ev PySem L2
end G
/-! A strip's text: lines, words. -/
namespace Ev
open PySem L2 TL
/-- a row of a strip: state, mark, mark written, side (right), state behind it -/
structure SR where
  a : Nat
  b : Nat
  w : Nat
  s : Bool
  g : Nat
noncomputable def goalS (S : Nat) (r : SR) : Str := if r.g = S then "end" else numS r.g
noncomputable def srWords (S : Nat) (r : SR) : List Str := ["row", numS r.a, numS r.b, numS r.w, sd r.s, goalS S r]
noncomputable def srText (S : Nat) (r : SR) : Str := Txt.join " " (srWords S r)
noncomputable def marksL (M : Nat) : Str := ("marks " : Str) ++ numS M
noncomputable def statesL (S : Nat) : Str := ("states " : Str) ++ numS S
noncomputable def strLines (M S : Nat) (rows : List SR) : List Str := marksL M :: statesL S :: rows.map (srText S)
noncomputable def strText (M S : Nat) (rows : List SR) : Str := Txt.join "\n" (strLines M S rows)
theorem big_free {s : Nat} (h : s < 48) {l : List Nat} (hl : (l.all fun c => decide (48 ≤ c)) = true) : s ∉ l := fun hm => by
  have := of_decide_eq_true (List.all_eq_true.mp hl s hm)
  omega
theorem goal_free {s : Nat} (h : s < 48) (S : Nat) (r : SR) : s ∉ tl (goalS S r) := by
  unfold goalS
  split
  · exact big_free h (by decide +kernel)
  · rw [tl_numS]; exact numL_free (.inl h)
theorem srWord_free {s : Nat} (h : s < 48) (S : Nat) (r : SR) : ∀ p ∈ srWords S r, s ∉ tl p := by
  intro z hz
  simp only [srWords, List.mem_cons, List.not_mem_nil, or_false] at hz
  rcases hz with rfl | rfl | rfl | rfl | rfl | rfl
  · exact big_free h (by decide +kernel)
  · rw [tl_numS]; exact numL_free (.inl h)
  · rw [tl_numS]; exact numL_free (.inl h)
  · rw [tl_numS]; exact numL_free (.inl h)
  · cases r.s
    · exact big_free h (by decide +kernel)
    · exact big_free h (by decide +kernel)
  · exact goal_free h S r
theorem split_sr (S : Nat) (r : SR) : Txt.split (srText S r) " " = srWords S r :=
  split_join (y := " ") (s := 32) (S := []) tl_sp (by decide +kernel) (by simp [srWords]) (srWord_free (by omega) S r)
theorem split_two {x y : Str} (hx : 32 ∉ tl x) (hy : 32 ∉ tl y) : Txt.split (Txt.join " " [x, y]) " " = [x, y] :=
  split_join (y := " ") (s := 32) (S := []) tl_sp (by decide +kernel) (by simp) fun z hz => by
    simp only [List.mem_cons, List.not_mem_nil, or_false] at hz
    rcases hz with rfl | rfl
    · exact hx
    · exact hy
theorem two_join {x y z : Str} (e : tl z = tl x ++ [32]) : z ++ y = Txt.join " " [x, y] := by
  refine ext_tl ?_
  rw [tl_joinT, tl_append, tl_sp, e, List.append_assoc]
  rfl
theorem split_marks (M : Nat) : Txt.split (marksL M) " " = [("marks" : Str), numS M] := by
  unfold marksL
  rw [two_join (x := "marks") (by decide +kernel)]
  exact split_two (by decide +kernel) (by rw [tl_numS]; exact numL_free (.inl (by omega)))
theorem split_states (S : Nat) : Txt.split (statesL S) " " = [("states" : Str), numS S] := by
  unfold statesL
  rw [two_join (x := "states") (by decide +kernel)]
  exact split_two (by decide +kernel) (by rw [tl_numS]; exact numL_free (.inl (by omega)))
theorem split_strip (M S : Nat) (rows : List SR) : Txt.split (strText M S rows) "\n" = strLines M S rows := by
  refine split_join (y := "\n") (s := 10) (S := []) tl_nl (by decide +kernel) (by simp [strLines]) fun z hz => ?_
  simp only [strLines, List.mem_cons, List.mem_map] at hz
  rcases hz with rfl | rfl | ⟨r, _, rfl⟩
  · unfold marksL
    rw [tl_append, List.mem_append, tl_numS]
    exact not_or.mpr ⟨by decide +kernel, numL_free (.inl (by omega))⟩
  · unfold statesL
    rw [tl_append, List.mem_append, tl_numS]
    exact not_or.mpr ⟨by decide +kernel, numL_free (.inl (by omega))⟩
  · unfold srText
    rw [tl_joinT, tl_sp]
    refine mem_joinL (by simp) fun p hp => ?_
    obtain ⟨z, hz, rfl⟩ := List.mem_map.mp hp
    exact srWord_free (by omega) S r z hz
noncomputable def SR.small (r : SR) : Prop := r.a < 100 ∧ r.b < 100 ∧ r.w < 100 ∧ r.g < 100
theorem srWords_sum {S : Nat} {r : SR} (h : r.small) : ((srWords S r).map (·.length)).sum ≤ 17 := by
  obtain ⟨h1, h2, h3, h4⟩ := h
  have := len_numS h1
  have := len_numS h2
  have := len_numS h3
  have e1 : ("row" : Str).length = 3 := by decide +kernel
  have e2 : (sd r.s).length ≤ 5 := by cases r.s <;> decide +kernel
  have e3 : (goalS S r).length ≤ 3 := by
    unfold goalS
    split
    · decide +kernel
    · have := len_numS h4; omega
  simp only [srWords, List.map_cons, List.map_nil, List.sum_cons, List.sum_nil]
  omega
theorem len_sr {S : Nat} {r : SR} (h : r.small) : (srText S r).length ≤ 23 := by
  have h1 := len_join " " (srWords S r)
  have h2 := srWords_sum (S := S) h
  have e : (" " : Str).length = 1 := by decide +kernel
  have e2 : (srWords S r).length = 6 := rfl
  unfold srText
  rw [e, e2] at h1
  omega
theorem len_two {M : Nat} (h : M < 100) : (marksL M).length ≤ 8 ∧ (statesL M).length ≤ 9 := by
  unfold marksL statesL
  rw [Str.length_append, Str.length_append]
  have := len_numS h
  have e : ("marks " : Str).length = 6 := by decide +kernel
  have e2 : ("states " : Str).length = 7 := by decide +kernel
  omega
theorem strLines_sum {M S : Nat} {rows : List SR} (h : M < 100) (h2 : S < 100) (hr : ∀ r ∈ rows, r.small) : ((strLines M S rows).map (·.length)).sum ≤ 17 + 23 * rows.length := by
  have key : ∀ rows : List SR, (∀ r ∈ rows, r.small) → ((rows.map (srText S)).map (·.length)).sum ≤ 23 * rows.length := by
    intro rows
    induction rows with
    | nil => intro _; simp
    | cons r rows ih =>
      intro hr
      have h1 := len_sr (S := S) (hr r (by simp))
      have h2 := ih fun x hx => hr x (by simp [hx])
      simp only [List.map_cons, List.sum_cons, List.length_cons]
      omega
  have h1 := key rows hr
  have h3 := len_two h
  have h4 := len_two h2
  simp only [strLines, List.map_cons, List.sum_cons]
  omega
theorem len_strip {M S : Nat} {rows : List SR} (h : M < 100) (h2 : S < 100) (hr : ∀ r ∈ rows, r.small) : (strText M S rows).length ≤ 30 + 24 * rows.length := by
  have h1 := len_join "\n" (strLines M S rows)
  have h3 := strLines_sum h h2 hr
  have e : ("\n" : Str).length = 1 := by decide +kernel
  have e2 : (strLines M S rows).length = rows.length + 2 := by simp [strLines]
  unfold strText
  rw [e, e2] at h1
  omega
end Ev
/-! A strip made of a text. -/
namespace G
open Ev PySem L2
noncomputable def trR5 (r : SR) : Tr := .tup [.int r.a, .int r.b, .int r.w, .str (sd r.s), .int r.g]
noncomputable def keyS (r : SR) : List Key := [.inl r.a, .inl r.b]
noncomputable def valS (r : SR) : Tr := .tup [.int r.w, .str (sd r.s), .int r.g]
structure SROk (M S : Nat) (r : SR) : Prop where
  a : r.a < S
  b : r.b < M
  w : r.w < M
  g : r.g ≤ S
structure SOk (M S : Nat) (rows : List SR) : Prop where
  lo : 2 ≤ M
  hi : M ≤ 3
  s1 : 1 ≤ S
  s4 : S ≤ 4
  ok : ∀ r ∈ rows, SROk M S r
  nd : (rows.map keyS).Nodup
  ne : rows ≠ []
  len : rows.length ≤ 15
theorem SROk.small {M S : Nat} {r : SR} (h : SROk M S r) (hM : M ≤ 3) (hS : S ≤ 4) : r.small := by
  have h1 := h.a
  have h2 := h.b
  have h3 := h.w
  have h4 := h.g
  exact ⟨by omega, by omega, by omega, by omega⟩
noncomputable def fL : List Str := ["own_marks", "own_states", "own_rows"]
noncomputable def LM (base : List Ob) (om os : Tr) (L : List Tr) : List Ob := base ++ [.ins "Lines" fL [om, os, .ob (base.length + 1)], .lst L]
section
variable {base : List Ob} {om os om' os' : Tr} {L L' : List Tr}
theorem LM_0 : (LM base om os L)[base.length]? = some (.ins "Lines" fL [om, os, .ob (base.length + 1)]) := by simp [LM]
theorem LM_1 : (LM base om os L)[base.length + 1]? = some (.lst L) := by simp [LM]
theorem LM_s0 : (LM base om os L).set base.length (.ins "Lines" fL [om', os', .ob (base.length + 1)]) = LM base om' os' L := by simp [LM]
theorem LM_s1 : (LM base om os L).set (base.length + 1) (.lst L') = LM base om os L' := by simp [LM]
theorem get_m (x y z : Tr) : getK ("own_marks" : Str) fL [x, y, z] = some x := rfl
theorem get_s (x y z : Tr) : getK ("own_states" : Str) fL [x, y, z] = some y := rfl
theorem get_r (x y z : Tr) : getK ("own_rows" : Str) fL [x, y, z] = some z := rfl
theorem set_m (x y z t : Tr) : setF fL [x, y, z] ("own_marks" : Str) t = (fL, [t, y, z]) := rfl
theorem set_s (x y z t : Tr) : setF fL [x, y, z] ("own_states" : Str) t = (fL, [x, t, z]) := rfl
theorem len_fL : fL.length = 3 := rfl
theorem no_number : ("number" : Str) ∉ fL := by decide +kernel
theorem no_takes : ("takes" : Str) ∉ fL := by decide +kernel
theorem no_row : ("takes_row" : Str) ∉ fL := by decide +kernel
end
theorem lines_new {d : Nat} {base : List Ob} (hd : 2 ≤ d) : callF gc 64 fs d n_Lines_2 [] base = some (.ob base.length, LM base .non .non []) := by
  obtain ⟨d, rfl⟩ : ∃ d', d = d' + 2 := ⟨d - 2, by omega⟩
  have hg : ∀ x : Ob, (base ++ [x])[base.length]? = some x := fun x => by simp
  have hg2 : ∀ x y : Ob, (base ++ [x, y])[base.length]? = some x := fun x y => by simp
  have hs : ∀ x y : Ob, (base ++ [x]).set base.length y = base ++ [y] := fun x y => by simp
  have hs2 : ∀ x y z : Ob, (base ++ [x, z]).set base.length y = base ++ [y, z] := fun x y z => by simp
  have s1 : ∀ t : Tr, setF [] [] ("own_marks" : Str) t = ([("own_marks" : Str)], [t]) := fun t => rfl
  have s2 : ∀ t u : Tr, setF [("own_marks" : Str)] [u] ("own_states" : Str) t = ([("own_marks" : Str), ("own_states" : Str)], [u, t]) := fun t u => rfl
  have s3 : ∀ t u v : Tr, setF [("own_marks" : Str), ("own_states" : Str)] [u, v] ("own_rows" : Str) t = (fL, [u, v, t]) := fun t u v => rfl
  have pn : Tr.pure .non = true := rfl
  rw [callK (fn := f_Lines_2) (c := "Lines") rfl rfl rfl rfl]
  unfold LM
  simp [f_Lines_2, b_Lines_2, hg, hg2, hs, hs2, s1, s2, s3, doneK, pn]
theorem number_in {d n k : Nat} {mem : List Ob} {h : Str} {lo hi : Int} (hd : 3 ≤ d) (hk : k < 100) (h1 : lo ≤ k) (h2 : (k : Int) ≤ hi) : callF gc 64 fs d n_Lines_number [.ob n, .lst [.str h, .str (numS k)], .str h, .int lo, .int hi] mem = some (.int k, mem) := by
  obtain ⟨d, rfl⟩ : ∃ d', d = d' + 1 := ⟨d - 1, by omega⟩
  have e := integer_in (d := d) (m := mem) (by omega) hk h1 h2
  rw [callS (fn := f_Lines_number) rfl rfl rfl]
  generalize numS k = z at e
  simp [f_Lines_number, b_Lines_number, e, opC2_of]
theorem takes_marks {d M : Nat} {base : List Ob} (hd : 4 ≤ d) (h1 : 2 ≤ M) (h2 : M ≤ 3) : callF gc 64 fs d n_Lines_takes [.ob base.length, .str (marksL M)] (LM base .non .non []) = some (.bl true, LM base (.int M) .non []) := by
  obtain ⟨d, rfl⟩ : ∃ d', d = d' + 1 := ⟨d - 1, by omega⟩
  have e := number_in (d := d) (n := base.length) (mem := LM base .non .non []) (h := "marks") (lo := 2) (hi := 3) (by omega) (show M < 100 by omega) (by omega) (by omega)
  have l9 := (len_two (M := M) (by omega)).1
  have e1 := split_sp (z := marksL M) (by omega)
  rw [split_marks] at e1
  have g0 := LM_0 (base := base) (om := .non) (os := .non) (L := [])
  have g1 := LM_0 (base := base) (om := .int M) (os := .non) (L := [])
  have g2 := LM_s0 (base := base) (om := .non) (os := .non) (om' := .int M) (os' := .non) (L := [])
  have nn := no_number
  have c1 : opC2 .notN (.int (M : Int)) .non = some true := rfl
  rw [callS (fn := f_Lines_takes) rfl rfl rfl]
  simp only [List.map_cons, List.map_nil] at e1
  generalize marksL M = z at *
  generalize numS M = y at *
  generalize LM base .non .non [] = m0 at *
  generalize LM base (.int M) .non [] = m1 at *
  simp [f_Lines_takes, b_Lines_takes, e, e1, g0, g1, g2, nn, c1, get_m, set_m, len_fL, recvOk]
theorem takes_states {d M S : Nat} {base : List Ob} (hd : 4 ≤ d) (h1 : 1 ≤ S) (h2 : S ≤ 4) : callF gc 64 fs d n_Lines_takes [.ob base.length, .str (statesL S)] (LM base (.int M) .non []) = some (.bl true, LM base (.int M) (.int S) []) := by
  obtain ⟨d, rfl⟩ : ∃ d', d = d' + 1 := ⟨d - 1, by omega⟩
  have e := number_in (d := d) (n := base.length) (mem := LM base (.int M) .non []) (h := "states") (lo := 1) (hi := 4) (by omega) (show S < 100 by omega) (by omega) (by omega)
  have l9 := (len_two (M := S) (by omega)).2
  have e1 := split_sp (z := statesL S) (by omega)
  rw [split_states] at e1
  have g0 := LM_0 (base := base) (om := .int M) (os := .non) (L := [])
  have g1 := LM_0 (base := base) (om := .int M) (os := .int S) (L := [])
  have g2 := LM_s0 (base := base) (om := .int M) (os := .non) (om' := .int M) (os' := .int S) (L := [])
  have nn := no_number
  have c1 : opC2 .notN (.int (S : Int)) .non = some true := rfl
  rw [callS (fn := f_Lines_takes) rfl rfl rfl]
  simp only [List.map_cons, List.map_nil] at e1
  generalize statesL S = z at *
  generalize numS S = y at *
  generalize LM base (.int M) .non [] = m0 at *
  generalize LM base (.int M) (.int S) [] = m1 at *
  simp [f_Lines_takes, b_Lines_takes, e, e1, g0, g1, g2, nn, c1, get_m, get_s, set_s, len_fL, recvOk]
end G
/-! Rows of a strip's text taken. -/
namespace G
open Ev PySem L2 TL
theorem keyS_ne {x r : SR} (h : keyS x ≠ keyS r) : decide (((x.a : Int), (x.b : Int)) = ((r.a : Int), (r.b : Int))) = false := by
  refine decide_eq_false fun e => h ?_
  injection e with e1 e2
  simp [keyS, e1, e2]
theorem seen_one {cf : CF} {mem : List Ob} {x0 x1 x4 x5 : Slot} {x r : SR} (h : keyS x ≠ keyS r) : compF (.nm 6) [x0, x1, .val (.int r.a), .val (.int r.b), x4, x5, .none] (kCond gc cf .nul) (kElt gc cf e_Lines_takes_row_0) (trR5 x) mem = some (some (.bl false), mem) := by
  have sl : ∀ a b c e f : Tr, slT (.tup [a, b, c, e, f]) none (some 2) = some (.tup [a, b]) := fun a b c e f => rfl
  have e1 := keyS_ne h
  have e2 := eqT_pair x.a x.b r.a r.b
  rw [e1] at e2
  unfold trR5
  generalize (x.a : Int) = xa at *
  generalize (x.b : Int) = xb at *
  generalize (r.a : Int) = ra at *
  generalize (r.b : Int) = rb at *
  simp [compF, asg, e_Lines_takes_row_0, sl, e2, isNul, asInt]
theorem seen_all {cf : CF} {mem : List Ob} {x0 x1 x4 x5 : Slot} {dn : List SR} {r : SR} (h : keyS r ∉ dn.map keyS) (hl : dn.length ≤ 100) : compGo (compF (.nm 6) [x0, x1, .val (.int r.a), .val (.int r.b), x4, x5, .none] (kCond gc cf .nul) (kElt gc cf e_Lines_takes_row_0)) (dn.map trR5) mem [] = some (dn.map fun _ => .bl false, mem) := by
  rw [compGo_map (g := fun _ => some (.bl false)) (fun x hx => ?_) (by simp [Ev.sizeLine_eq]; omega), List.nil_append]
  · rw [List.filterMap_map]
    exact congrArg (fun l => some (l, mem)) (by induction dn with | nil => rfl | cons y l ih => exact congrArg (List.cons _) (ih (fun q => h (by simp at q ⊢; exact .inr q)) (by simp at hl; omega)))
  · obtain ⟨y, hy, rfl⟩ := List.mem_map.mp hx
    exact seen_one fun e => h (by rw [← e]; exact List.mem_map_of_mem hy)
theorem any_false {α : Type} (l : List α) : biT .any [.lst (l.map fun _ => Tr.bl false)] = some (.bl false) := by
  have : ∀ l : List α, boolsOf (l.map fun _ => Tr.bl false) = some (l.map fun _ => false) := by
    intro l
    induction l with
    | nil => rfl
    | cons x l ih => simp only [List.map_cons, boolsOf, ih]
  rw [b_any, this]
  simp
theorem goal_in {d S : Nat} {mem : List Ob} {r : SR} (hd : 2 ≤ d) (h : r.g ≤ S) (hS : S ≤ 4) : (goalS S r = "end" ∧ r.g = S) ∨ (goalS S r ≠ "end" ∧ callF gc 64 fs d n_integer_in [.str (goalS S r), .int 0, .int ((S : Int) - 1)] mem = some (.int r.g, mem)) := by
  unfold goalS
  by_cases e : r.g = S
  · exact .inl ⟨if_pos e, e⟩
  · rw [if_neg e]
    refine .inr ⟨fun q => ?_, integer_in hd (by omega) (by omega) (by omega)⟩
    have h1 := congrArg tl q
    have h2 : 110 ∈ tl ("end" : Str) := by decide +kernel
    rw [← h1, tl_numS] at h2
    exact absurd h2 (TL.numL_free (.inr (by omega)))
theorem takes_row {d M S : Nat} {base : List Ob} {r : SR} {dn : List SR} (hd : 4 ≤ d) (hM : M ≤ 3) (hS : S ≤ 4) (hr : SROk M S r) (hk : keyS r ∉ dn.map keyS) (hl : dn.length ≤ 80) :
    callF gc 64 fs d n_Lines_takes_row [.ob base.length, .lst ((srWords S r).map .str)] (LM base (.int M) (.int S) (dn.map trR5)) = some (.bl true, LM base (.int M) (.int S) ((dn ++ [r]).map trR5)) := by
  obtain ⟨d, rfl⟩ : ∃ d', d = d' + 1 := ⟨d - 1, by omega⟩
  obtain ⟨q1, q2, q3, q4⟩ := hr.small hM hS
  have ha := hr.a
  have hb := hr.b
  have hw := hr.w
  have g0 := LM_0 (base := base) (om := .int M) (os := .int S) (L := dn.map trR5)
  have g1 := LM_1 (base := base) (om := .int M) (os := .int S) (L := dn.map trR5)
  have g2 := LM_s1 (base := base) (om := .int M) (os := .int S) (L := dn.map trR5) (L' := (dn ++ [r]).map trR5)
  have hl3 : (dn.map trR5).length < 16777216 := by simp; omega
  have e1 := integer_in (d := d) (m := LM base (.int M) (.int S) (dn.map trR5)) (lo := 0) (hi := (S : Int) - 1) (by omega) q1 (by omega) (by omega)
  have e2 := integer_in (d := d) (m := LM base (.int M) (.int S) (dn.map trR5)) (lo := 0) (hi := (M : Int) - 1) (by omega) q2 (by omega) (by omega)
  have e3 := integer_in (d := d) (m := LM base (.int M) (.int S) (dn.map trR5)) (lo := 0) (hi := (M : Int) - 1) (by omega) q3 (by omega) (by omega)
  have e4 := goal_in (d := d) (mem := LM base (.int M) (.int S) (dn.map trR5)) (by omega) hr.g hS
  have e5 : opC2 .nin (.str (sd r.s)) (.tup [.str "right", .str "left"]) = some false := by cases r.s <;> decide +kernel
  have e6 := seen_all (cf := callF gc 64 fs d) (mem := LM base (.int M) (.int S) (dn.map trR5)) (x0 := .val (.ob base.length)) (x1 := .val (.lst ((srWords S r).map .str))) (x4 := .val (.int r.w)) (x5 := .val (.int r.g)) hk (by omega)
  have e7 := any_false dn
  have qt : quiet e_Lines_takes_row_0 = true := rfl
  rw [List.map_append] at g2 ⊢
  rw [callS (fn := f_Lines_takes_row) rfl rfl rfl]
  simp only [srWords, trR5, List.map_cons, List.map_nil] at g2 e6 ⊢
  generalize LM base (.int M) (.int S) (dn.map trR5 ++ [.tup [.int r.a, .int r.b, .int r.w, .str (sd r.s), .int r.g]]) = m1 at *
  generalize LM base (.int M) (.int S) (dn.map trR5) = m0 at *
  generalize (dn.map fun _ => Tr.bl false) = BB at *
  generalize dn.map trR5 = RR at *
  generalize numS r.a = za at *
  generalize numS r.b = zb at *
  generalize numS r.w = zw at *
  generalize sd r.s = zs at *
  generalize goalS S r = zg at *
  rcases e4 with ⟨rfl, e4⟩ | ⟨ne, e4⟩
  · rw [e4] at e6 g2
    simp [f_Lines_takes_row, b_Lines_takes_row, e1, e2, e3, e5, e6, e7, g0, g1, g2, get_m, get_s, get_r, opC2_of, hl3, isNul, wipeE, Slot.lock, qt, -b_any]
  · simp [f_Lines_takes_row, b_Lines_takes_row, e1, e2, e3, e4, e5, e6, e7, g0, g1, g2, ne, get_m, get_s, get_r, opC2_of, hl3, isNul, wipeE, Slot.lock, qt, -b_any]
end G
/-! A strip made of its whole text. -/
namespace G
open Ev PySem L2 TL
theorem takes_sr {d M S : Nat} {base : List Ob} {r : SR} {dn : List SR} (hd : 5 ≤ d) (hM : M ≤ 3) (hS : S ≤ 4) (hr : SROk M S r) (hk : keyS r ∉ dn.map keyS) (hl : dn.length ≤ 80) :
    callF gc 64 fs d n_Lines_takes [.ob base.length, .str (srText S r)] (LM base (.int M) (.int S) (dn.map trR5)) = some (.bl true, LM base (.int M) (.int S) ((dn ++ [r]).map trR5)) := by
  obtain ⟨d, rfl⟩ : ∃ d', d = d' + 1 := ⟨d - 1, by omega⟩
  have e := takes_row (d := d) (base := base) (by omega) hM hS hr hk hl
  have l9 := len_sr (S := S) (hr.small hM hS)
  have e1 := split_sp (z := srText S r) (by omega)
  rw [split_sr] at e1
  have g0 := LM_0 (base := base) (om := .int M) (os := .int S) (L := dn.map trR5)
  have nn := no_row
  have pl : ∀ l : List Tr, Tr.pure (.lst l) = true := fun l => rfl
  rw [callS (fn := f_Lines_takes) rfl rfl rfl]
  generalize srText S r = z at *
  generalize (srWords S r).map Tr.str = y at *
  generalize LM base (.int M) (.int S) (dn.map trR5) = m0 at *
  generalize LM base (.int M) (.int S) ((dn ++ [r]).map trR5) = m1 at *
  simp [f_Lines_takes, b_Lines_takes, e, e1, g0, nn, get_m, get_s, opC2_of, opC, recvOk]
theorem line_step {cf : CF} {n i : Nat} {z : Str} {x0 : Slot} {m m' : List Ob} (h : cf n_Lines_takes [.ob n, .str z] m = some (.bl true, m')) (hn : ∃ a b c, m[n]? = some (.ins "Lines" fL [a, b, c])) :
    exSs gc cf 64 l_lines_in_2_0 ⟨[x0, .val (.ob n), .val (.int i), .val (.str z)], m⟩ = .ok .next ⟨[x0, .val (.ob n), .val (.int ((i : Int) + 1)), .val (.str z)], m'⟩ := by
  obtain ⟨a, b, c, hn⟩ := hn
  have nn := no_takes
  simp [l_lines_in_2_0, h, hn, nn]
theorem lines_loop {d M S : Nat} {base : List Ob} {x0 : Slot} (hd : 5 ≤ d) (hM : M ≤ 3) (hS : S ≤ 4) : ∀ (rest dn : List SR) (i : Nat) (s3 : Slot), (∀ r ∈ rest, SROk M S r) → ((dn ++ rest).map keyS).Nodup → dn.length + rest.length ≤ 80 →
    ∃ j s3', forGo (.nm 3) (exSs gc (callF gc 64 fs d) 64 l_lines_in_2_0) (rest.map fun r => .str (srText S r)) ⟨[x0, .val (.ob base.length), .val (.int (i : Nat)), s3], LM base (.int M) (.int S) (dn.map trR5)⟩ =
      .ok .next ⟨[x0, .val (.ob base.length), .val (.int (j : Nat)), s3'], LM base (.int M) (.int S) ((dn ++ rest).map trR5)⟩
  | [], dn, i, s3, _, _, _ => ⟨i, s3, by simp [forGo]⟩
  | r :: rest, dn, i, s3, hr, nd, hl => by
    rw [List.length_cons] at hl
    have hk : keyS r ∉ dn.map keyS := by
      rw [List.map_append, List.nodup_append] at nd
      intro h
      exact nd.2.2 _ h _ (by simp) rfl
    have e := takes_sr (base := base) hd hM hS (hr r (by simp)) hk (by omega)
    obtain ⟨j, s3', hy⟩ := lines_loop (base := base) (x0 := x0) hd hM hS rest (dn ++ [r]) (i + 1) (.val (.str (srText S r))) (fun x hx => hr x (by simp [hx])) (by simpa using nd) (by simp; omega)
    refine ⟨j, s3', ?_⟩
    have st := line_step (i := i) (x0 := x0) e ⟨_, _, _, LM_0⟩
    have ha : asg (.nm 3) (.str (srText S r)) [x0, .val (.ob base.length), .val (.int (i : Nat)), s3] = some [x0, .val (.ob base.length), .val (.int (i : Nat)), .val (.str (srText S r))] := by simp [asg]
    rw [List.map_cons, forGo_cons ha st]
    rw [show ((i : Int) + 1) = ((i + 1 : Nat) : Int) by omega, hy]
    simp
theorem srs_ne {rows : List SR} (h : rows ≠ []) : eqT (.lst (rows.map trR5)) (.lst []) = some false := by
  rw [eqD_nil (n := 2) ?_ (by omega)]
  · cases rows with
    | nil => exact absurd rfl h
    | cons _ _ => rfl
  · rw [gds_iff]
    intro t ht
    obtain ⟨r, _, rfl⟩ := List.mem_map.mp ht
    cases hs : r.s <;> simp [trR5, gd, gds, sd, hs] <;> decide +kernel
theorem lines_in {d M S : Nat} {base : List Ob} {rows : List SR} (hd : 7 ≤ d) (h : SOk M S rows) : callF gc 64 fs d n_lines_in_2 [.str (strText M S rows)] base = some (.ob base.length, LM base (.int M) (.int S) (rows.map trR5)) := by
  obtain ⟨d, rfl⟩ : ∃ d', d = d' + 1 := ⟨d - 1, by omega⟩
  have hs : ∀ r ∈ rows, r.small := fun r hr => (h.ok r hr).small h.hi h.s4
  have hl := h.len
  have q1 := h.hi
  have q2 := h.s4
  have lt := len_strip (M := M) (S := S) (by omega) (by omega) hs
  have e1 := split_nl (z := strText M S rows) (by omega)
  rw [split_strip] at e1
  have e2 := lines_new (d := d) (base := base) (by omega)
  have e3 := takes_marks (d := d) (base := base) (by omega) h.lo h.hi
  have e4 := takes_states (d := d) (M := M) (base := base) (by omega) h.s1 h.s4
  have s3 := line_step (cf := callF gc 64 fs d) (i := 0) (x0 := .val (.str (strText M S rows))) e3 ⟨_, _, _, LM_0⟩
  have s4 := line_step (cf := callF gc 64 fs d) (i := 1) (x0 := .val (.str (strText M S rows))) e4 ⟨_, _, _, LM_0⟩
  obtain ⟨j, s3', e5⟩ := lines_loop (d := d) (M := M) (S := S) (base := base) (x0 := .val (.str (strText M S rows))) (by omega) h.hi h.s4 rows [] 2 (.val (.str (statesL S))) h.ok (by simpa using h.nd) (by simp; omega)
  rw [List.nil_append] at e5
  have e6 : forGo (.nm 3) (exSs gc (callF gc 64 fs d) 64 l_lines_in_2_0) ((strLines M S rows).map .str) ⟨[.val (.str (strText M S rows)), .val (.ob base.length), .val (.int 0), .none], LM base .non .non []⟩ = .ok .next ⟨[.val (.str (strText M S rows)), .val (.ob base.length), .val (.int (j : Nat)), s3'], LM base (.int M) (.int S) (rows.map trR5)⟩ := by
    simp only [strLines, List.map_cons, List.map_map]
    rw [forGo_cons (env := [.val (.str (strText M S rows)), .val (.ob base.length), .val (.int 0), .val (.str (marksL M))]) (by simp [asg]) s3]
    rw [forGo_cons (env := [.val (.str (strText M S rows)), .val (.ob base.length), .val (.int 1), .val (.str (statesL S))]) (by simp [asg]) s4]
    exact e5
  have e7 := srs_ne h.ne
  have g0 := LM_0 (base := base) (om := .int M) (os := .int S) (L := rows.map trR5)
  have g1 := LM_1 (base := base) (om := .int M) (os := .int S) (L := rows.map trR5)
  have b1 : ∀ z : Str, biT .isStr [.str z] = some (.bl true) := fun z => rfl
  have hm : ∀ l : List Tr, items 0 [.lst l] = some l := fun l => rfl
  rw [callS (fn := f_lines_in_2) rfl rfl rfl]
  generalize (strLines M S rows).map Tr.str = LL at *
  generalize strText M S rows = T at *
  generalize LM base .non .non [] = m0 at *
  generalize LM base (.int M) (.int S) (rows.map trR5) = m1 at *
  generalize rows.map trR5 = RR at *
  simp [f_lines_in_2, b_lines_in_2, e1, e2, e6, e7, g0, g1, b1, hm, get_r, manyGo, recvOk]
noncomputable def trS (M S : Nat) (rows : List SR) : Tr := .ins "Strip" ["own_text", "own_marks", "own_states", "own_told", "own_rows"] [.str (strText M S rows), .int M, .int S, .tup (rows.map trR5), .dt (rows.map keyS) (rows.map valS)]
theorem dcGo_map {α : Type} {f : Tr → Option (List Key × Tr)} {g : α → Tr} {k : α → List Key} {v : α → Tr} : ∀ (l : List α) (ks : List (List Key)) (vs : List Tr), (∀ x ∈ l, f (g x) = some (k x, v x)) → (ks ++ l.map k).Nodup → ks.length + l.length < 16777216 → dcGo f (l.map g) ks vs = some (ks ++ l.map k, vs ++ l.map v)
  | [], ks, vs, _, _, _ => by simp [dcGo]
  | x :: l, ks, vs, h, nd, hl => by
    rw [List.length_cons] at hl
    have hk : k x ∉ ks := by
      rw [List.map_cons, List.nodup_append] at nd
      intro q
      exact nd.2.2 _ q _ (by simp) rfl
    rw [List.map_cons, dcGo, h x (by simp)]
    dsimp only
    rw [if_pos (by rw [Ev.sizeLine_eq]; omega), putV_new hk]
    rw [dcGo_map l (ks ++ [k x]) (vs ++ [v x]) (fun y hy => h y (by simp [hy])) (by simpa using nd) (by simp; omega)]
    simp
theorem SM_0 {base : List Ob} {x : Ob} {a b : Tr} {L : List Tr} : (LM (base ++ [x]) a b L)[base.length]? = some x := by simp [LM]
theorem SM_s {base : List Ob} {x y : Ob} {a b : Tr} {L : List Tr} : (LM (base ++ [x]) a b L).set base.length y = LM (base ++ [y]) a b L := by simp [LM]
theorem SM_1 {base : List Ob} {x : Ob} {a b : Tr} {L : List Tr} : (LM (base ++ [x]) a b L)[base.length + 1]? = some (.ins "Lines" fL [a, b, .ob (base.length + 2)]) := by simp [LM]
theorem SM_2 {base : List Ob} {x : Ob} {a b : Tr} {L : List Tr} : (LM (base ++ [x]) a b L)[base.length + 2]? = some (.lst L) := by simp [LM]
theorem strip {d M S : Nat} {base : List Ob} {rows : List SR} (hd : 9 ≤ d) (h : SOk M S rows) : callF gc 64 fs d n_Strip_2 [.str (strText M S rows)] base = some (trS M S rows, LM (base ++ [.gone]) (.int M) (.int S) (rows.map trR5)) := by
  obtain ⟨d, rfl⟩ : ∃ d', d = d' + 2 := ⟨d - 2, by omega⟩
  have hl := h.len
  have e := lines_in (d := d) (base := base ++ [.ins "Strip" [] []]) (by omega) h
  rw [List.length_append, List.length_singleton] at e
  have hg : ∀ x : Ob, (base ++ [x])[base.length]? = some x := fun x => by simp
  have hs : ∀ x y : Ob, (base ++ [x]).set base.length y = base ++ [y] := fun x y => by simp
  have sl1 : ∀ a b c e f : Tr, slT (.tup [a, b, c, e, f]) none (some 2) = some (.tup [a, b]) := fun a b c e f => rfl
  have sl2 : ∀ a b c e f : Tr, slT (.tup [a, b, c, e, f]) (some 2) none = some (.tup [c, e, f]) := fun a b c e f => rfl
  have kk : ∀ a b : Int, keysT [.int a, .int b] = some [.inl a, .inl b] := fun a b => rfl
  have e2 : ∀ (x0 x1 x2 : Slot) (m : List Ob), dcGo (dcF (.nm 3) [x0, x1, x2, .none] m (kElt gc (callF gc 64 fs d) (.sl (.var 3) .nul (.gl g_PAIR))) (kElt gc (callF gc 64 fs d) (.sl (.var 3) (.gl g_PAIR) .nul))) (rows.map trR5) [] [] = some (rows.map keyS, rows.map valS) := fun x0 x1 x2 m => by
    refine dcGo_map (k := keyS) (v := valS) rows [] [] (fun r hr => ?_) (by simpa using h.nd) (by simp; omega)
    unfold trR5 valS keyS
    generalize sd r.s = z
    generalize (r.a : Int) = ra
    generalize (r.b : Int) = rb
    generalize (r.w : Int) = rw'
    generalize (r.g : Int) = rg
    simp [dcF, asg, sl1, sl2, kk, isNul, asInt]
  have s1 : ∀ t : Tr, setF [] [] ("own_text" : Str) t = ([("own_text" : Str)], [t]) := fun t => rfl
  have s2 : ∀ t u : Tr, setF [("own_text" : Str)] [u] ("own_marks" : Str) t = ([("own_text" : Str), ("own_marks" : Str)], [u, t]) := fun t u => rfl
  have s3 : ∀ t u v : Tr, setF [("own_text" : Str), ("own_marks" : Str)] [u, v] ("own_states" : Str) t = ([("own_text" : Str), ("own_marks" : Str), ("own_states" : Str)], [u, v, t]) := fun t u v => rfl
  have s4 : ∀ t u v w : Tr, setF [("own_text" : Str), ("own_marks" : Str), ("own_states" : Str)] [u, v, w] ("own_told" : Str) t = ([("own_text" : Str), ("own_marks" : Str), ("own_states" : Str), ("own_told" : Str)], [u, v, w, t]) := fun t u v w => rfl
  have s5 : ∀ t u v w x : Tr, setF [("own_text" : Str), ("own_marks" : Str), ("own_states" : Str), ("own_told" : Str)] [u, v, w, x] ("own_rows" : Str) t = ([("own_text" : Str), ("own_marks" : Str), ("own_states" : Str), ("own_told" : Str), ("own_rows" : Str)], [u, v, w, x, t]) := fun t u v w x => rfl
  have q1 : quiet (.sl (.var 3) .nul (.gl g_PAIR)) = true := rfl
  have q2 : quiet (.sl (.var 3) (.gl g_PAIR) .nul) = true := rfl
  rw [callC (fn := f_Strip_2) (c := "Strip") rfl rfl rfl]
  unfold trS
  have g0 := fun x => SM_0 (base := base) (x := x) (a := .int M) (b := .int S) (L := rows.map trR5)
  have gs := fun x y => SM_s (base := base) (x := x) (y := y) (a := .int M) (b := .int S) (L := rows.map trR5)
  have g1 := fun x => SM_1 (base := base) (x := x) (a := .int M) (b := .int S) (L := rows.map trR5)
  have g2 := fun x => SM_2 (base := base) (x := x) (a := .int M) (b := .int S) (L := rows.map trR5)
  generalize rows.map keyS = KK at *
  generalize rows.map valS = VV at *
  generalize strText M S rows = T at *
  generalize hF : (fun b : List Ob => LM b (.int (M : Int)) (.int (S : Int)) (rows.map trR5)) = F at *
  have hF2 : ∀ b, LM b (.int (M : Int)) (.int (S : Int)) (rows.map trR5) = F b := fun b => by rw [← hF]
  simp only [hF2] at *
  generalize rows.map trR5 = RR at *
  simp [f_Strip_2, b_Strip_2, e, e2, g0, gs, g1, g2, hg, hs, asg, asgs, doneC, s1, s2, s3, s4, s5, q1, q2, get_m, get_s, get_r, wipeE, Slot.lock]
end G
/-! Strips of the law's own: told ones, drawn ones. -/
namespace G
open Ev PySem L2 TL
noncomputable def ownS (M S : Nat) (rows : List SR) : Tr := .dk [.inr "marks", .inr "states", .inr "rows"] [.int M, .int S, .dt (rows.map keyS) (rows.map valS)]
theorem take_n {d n k u : Nat} {m : List Ob} (h : Pot m n k) (hk : k < 1073741824) (hu : 0 < u) (hu2 : u < 1000000) (hd : 1 ≤ d) :
    ∃ (j : Nat) (m' : List Ob), j < u ∧ callF gc 64 fs d n_law_take [.ob n, .int u] m = some (.int j, m') ∧ Pot m' n (k + 1) := by
  obtain ⟨j, L, e, j0, j1, P⟩ := take_spec (d := d) (e := 0) (u := (u : Int)) h hk (by omega) (by omega) (by omega)
  obtain ⟨i, rfl⟩ : ∃ i : Nat, j = i := ⟨j.toNat, by omega⟩
  exact ⟨i, _, by omega, e, P⟩
theorem items_rg (n : Nat) (h : n < 1000) : items 1 [.int (n : Int)] = some ((List.range n).map fun (i : Nat) => Tr.int i) := by
  have e : rgT 0 (n : Int) = (List.range n).map fun (i : Nat) => Tr.int i := by
    unfold rgT
    rw [show ((n : Int) - 0).toNat = n by omega]
    exact List.map_congr_left fun i _ => by rw [Int.zero_add]
  rw [← e]
  simp only [items]
  exact if_pos (in62_of (by omega))
/-! told ones -/
noncomputable def told1 : List SR := [⟨0, 1, 0, true, 0⟩, ⟨0, 0, 0, false, 1⟩]
noncomputable def told2 : List SR := [⟨0, 1, 1, true, 0⟩, ⟨0, 0, 0, false, 1⟩, ⟨1, 1, 0, false, 1⟩, ⟨1, 0, 0, true, 2⟩]
noncomputable def told3 : List SR := [⟨0, 1, 2, true, 0⟩, ⟨0, 2, 1, true, 0⟩, ⟨0, 0, 0, false, 1⟩, ⟨1, 1, 0, false, 1⟩, ⟨1, 2, 0, false, 1⟩, ⟨1, 0, 0, true, 2⟩]
theorem told_ok1 : SOk 2 1 told1 := ⟨by decide, by decide, by decide, by decide, by
  intro r hr
  simp [told1] at hr
  rcases hr with rfl | rfl <;> exact ⟨by decide, by decide, by decide, by decide⟩, by decide, by decide, by decide⟩
theorem told_ok2 : SOk 2 2 told2 := ⟨by decide, by decide, by decide, by decide, by
  intro r hr
  simp [told2] at hr
  rcases hr with rfl | rfl | rfl | rfl <;> exact ⟨by decide, by decide, by decide, by decide⟩, by decide, by decide, by decide⟩
theorem told_ok3 : SOk 3 2 told3 := ⟨by decide, by decide, by decide, by decide, by
  intro r hr
  simp [told3] at hr
  rcases hr with rfl | rfl | rfl | rfl | rfl | rfl <;> exact ⟨by decide, by decide, by decide, by decide⟩, by decide, by decide, by decide⟩
noncomputable def toldE : Ex := match b_law_told_strip_2 with
  | [.ret (.call _ [_, e])] => e
  | _ => .bad
theorem told_ev {cf : CF} {s : Sta} : evX gc cf toldE false s = .ok (.lst [ownS 2 1 told1, ownS 2 2 told2, ownS 3 2 told3]) s := by kernel_rfl
theorem told_strip {d n k : Nat} {m : List Ob} (h : Pot m n k) (hk : k < 1000000) (hd : 3 ≤ d) : ∃ (M S : Nat) (rows : List SR) (m' : List Ob), SOk M S rows ∧ S ≤ 3 ∧ callF gc 64 fs d n_law_told_strip_2 [.ob n] m = some (ownS M S rows, m') ∧ Pot m' n (k + 1) := by
  obtain ⟨d, rfl⟩ : ∃ d', d = d' + 1 := ⟨d - 1, by omega⟩
  obtain ⟨t, m', ht, e, P⟩ := of_spec (d := d) (l := [ownS 2 1 told1, ownS 2 2 told2, ownS 3 2 told3]) h (by omega) (by simp) rfl (by simp) (by omega)
  have tp : t.pure = true := by
    simp at ht
    rcases ht with rfl | rfl | rfl <;> rfl
  have main : callF gc 64 fs (d + 1) n_law_told_strip_2 [.ob n] m = some (t, m') := by
    rw [callS (fn := f_law_told_strip_2) rfl rfl rfl]
    have hb : f_law_told_strip_2.body = [.ret (.call n_law_of [.var 0, toldE])] := rfl
    rw [hb]
    have e2 := told_ev (cf := callF gc 64 fs d) (s := ⟨[.val (.ob n)], m⟩)
    generalize ownS 2 1 told1 = a at *
    generalize ownS 2 2 told2 = b at *
    generalize ownS 3 2 told3 = c at *
    generalize toldE = te at *
    simp [f_law_told_strip_2, e, e2, tp]
  simp at ht
  rcases ht with rfl | rfl | rfl
  · exact ⟨2, 1, told1, m', told_ok1, by omega, main, P⟩
  · exact ⟨2, 2, told2, m', told_ok2, by omega, main, P⟩
  · exact ⟨3, 2, told3, m', told_ok3, by omega, main, P⟩
/-! drawn ones -/
theorem goals (S : Nat) (hS : S < 100) : biT .listRg [.int (S : Int)] = some (.lst ((List.range S).map fun (i : Nat) => Tr.int i)) := by
  have e : rgT 0 (S : Int) = (List.range S).map fun (i : Nat) => Tr.int i := by
    unfold rgT
    rw [show ((S : Int) - 0).toNat = S by omega]
    exact List.map_congr_left fun i _ => by rw [Int.zero_add]
  rw [← e]
  simp only [biT]
  exact if_pos (by
    rw [Bool.and_eq_true]
    exact ⟨decide_eq_true (by omega), Nat.ble_eq_true_of_le (by omega)⟩)
theorem drawn_step {d n k M S a b : Nat} {mem : List Ob} {s6 : Slot} {dn : List SR} (h : Pot mem n k) (hk : k < 1000000) (hd : 2 ≤ d) (hM : 0 < M) (hM3 : M ≤ 3) (hS : S ≤ 3) (ha : a < S) (hb : b < M) (hn : [.inl (a : Int), .inl (b : Int)] ∉ dn.map keyS) (hl : dn.length ≤ 50) :
    ∃ (ex : List SR) (mem' : List Ob) (s6' : Slot), (∀ r ∈ ex, r.a = a ∧ r.b = b ∧ SROk M S r) ∧ ex.length ≤ 1 ∧ exSs gc (callF gc 64 fs d) 64 l_law_drawn_strip_2_0 ⟨[.val (.ob n), .val (.int M), .val (.int S), .own (.dt (dn.map keyS) (dn.map valS)), .val (.int a), .val (.int b), s6], mem⟩ =
      .ok .next ⟨[.val (.ob n), .val (.int M), .val (.int S), .own (.dt ((dn ++ ex).map keyS) ((dn ++ ex).map valS)), .val (.int a), .val (.int b), s6'], mem'⟩ ∧ Pot mem' n (k + 4) := by
  obtain ⟨j, m1, j5, e1, P1⟩ := take_n (u := 5) (d := d) h (by omega) (by omega) (by omega) (by omega)
  by_cases hj : 0 < j
  · obtain ⟨g, m2, hg, e2, P2⟩ := draw_nat (d := d) (l := List.range S ++ [S]) P1 (by omega) (by simp) (by simp; omega) hd
    obtain ⟨w, m3, hw, e3, P3⟩ := take_n (u := M) (d := d) P2 (by omega) hM (by omega) (by omega)
    obtain ⟨s, m4, e4, P4⟩ := draw_side (d := d) P3 (by omega) hd
    have hg2 : g ≤ S := by
      simp at hg
      omega
    refine ⟨[⟨a, b, w, s, g⟩], m4, .val (.int g), ?_, by simp, ?_, P4⟩
    · intro r hr
      rw [List.mem_singleton.mp hr]
      exact ⟨rfl, rfl, ha, hb, hw, hg2⟩
    · have e0 := goals S (by omega)
      rw [List.map_append] at e2
      have c1 : opB .add (.lst ((List.range S).map fun (i : Nat) => Tr.int i)) (.lst [.int (S : Int)]) = some (.lst (((List.range S).map fun (i : Nat) => Tr.int i) ++ [.int (S : Int)])) := opB_addL (by rw [Ev.sizeLine_eq]; simp; omega)
      simp only [List.map_cons, List.map_nil] at e2
      have pv := putV_new (vs := dn.map valS) (t := .tup [.int w, .str (sd s), .int g]) hn
      have kk : keysT [.int (a : Int), .int (b : Int)] = some [.inl (a : Int), .inl (b : Int)] := rfl
      have hl2 : (dn.map keyS).length < 16777216 := by simp; omega
      have hj' : (0 : Int) < (j : Int) := by omega
      rw [List.map_append, List.map_append]
      simp only [List.map_cons, List.map_nil, keyS, valS] at pv ⊢
      generalize (List.range S).map (fun (i : Nat) => Tr.int i) = RG at *
      generalize dn.map keyS = KK at *
      generalize dn.map valS = VV at *
      generalize sd s = sd' at *
      have e1' : callF gc 64 fs d n_law_take [.ob n, .int 5] mem = some (.int (j : Int), m1) := e1
      simp [l_law_drawn_strip_2_0, e0, e1', e2, e3, e4, c1, pv, kk, hl2, hj, d_own, -biT]
  · refine ⟨[], m1, s6, by simp, by simp, ?_, P1.mono (by omega)⟩
    have hj' : j = 0 := by omega
    subst hj'
    have e1' : callF gc 64 fs d n_law_take [.ob n, .int 5] mem = some (.int 0, m1) := e1
    simp [l_law_drawn_strip_2_0, e1']
theorem drawn_in {d n M S a : Nat} (hd : 2 ≤ d) (hM : 0 < M) (hM3 : M ≤ 3) (hS : S ≤ 3) (ha : a < S) : ∀ (L : List Nat) (dn : List SR) (mem : List Ob) (k : Nat) (s5 s6 : Slot), Pot mem n k → k + 4 * L.length < 1000000 → (∀ b ∈ L, b < M) → L.Nodup → (∀ b ∈ L, [.inl (a : Int), .inl (b : Int)] ∉ dn.map keyS) → dn.length + L.length ≤ 50 → (dn.map keyS).Nodup →
    ∃ (ex : List SR) (mem' : List Ob) (s5' s6' : Slot), (∀ r ∈ ex, r.a = a ∧ SROk M S r) ∧ ((dn ++ ex).map keyS).Nodup ∧ ex.length ≤ L.length ∧ forGo (.nm 5) (exSs gc (callF gc 64 fs d) 64 l_law_drawn_strip_2_0) (L.map fun (i : Nat) => Tr.int i) ⟨[.val (.ob n), .val (.int M), .val (.int S), .own (.dt (dn.map keyS) (dn.map valS)), .val (.int a), s5, s6], mem⟩ =
      .ok .next ⟨[.val (.ob n), .val (.int M), .val (.int S), .own (.dt ((dn ++ ex).map keyS) ((dn ++ ex).map valS)), .val (.int a), s5', s6'], mem'⟩ ∧ Pot mem' n (k + 4 * L.length)
  | [], dn, mem, k, s5, s6, P, _, _, _, _, _, nd => ⟨[], mem, s5, s6, by simp, by simpa using nd, by simp, by simp [forGo], by simpa using P⟩
  | b :: L, dn, mem, k, s5, s6, P, hk, hb, nL, hn, hl, nd => by
    rw [List.length_cons] at hk hl
    obtain ⟨ex, m1, s6', h1, h2, h3, P1⟩ := drawn_step (s6 := s6) P (by omega) hd hM hM3 hS ha (hb b (by simp)) (hn b (by simp)) (by omega)
    have k1 : ∀ r ∈ ex, keyS r = [.inl (a : Int), .inl (b : Int)] := fun r hr => by
      obtain ⟨q1, q2, _⟩ := h1 r hr
      simp [keyS, q1, q2]
    have nd2 : ((dn ++ ex).map keyS).Nodup := by
      match ex, h2, k1 with
      | [], _, _ => simpa using nd
      | [r], _, k1 =>
        rw [List.map_append, List.nodup_append]
        refine ⟨nd, by simp, fun x hx y hy e => ?_⟩
        simp at hy
        subst hy e
        rw [k1 r (by simp)] at hx
        exact hn b (by simp) hx
    have hn2 : ∀ c ∈ L, [.inl (a : Int), .inl (c : Int)] ∉ (dn ++ ex).map keyS := fun c hc hm => by
      rw [List.map_append, List.mem_append] at hm
      rcases hm with hm | hm
      · exact hn c (by simp [hc]) hm
      · obtain ⟨r, hr, e⟩ := List.mem_map.mp hm
        rw [k1 r hr] at e
        simp at e
        rw [List.nodup_cons] at nL
        exact nL.1 (by rw [show b = c by omega]; exact hc)
    obtain ⟨ex2, m2, s5'', s6'', g1, g2, g3, g4, P2⟩ := drawn_in hd hM hM3 hS ha L (dn ++ ex) m1 (k + 4) (.val (.int b)) s6' P1 (by omega) (fun c hc => hb c (by simp [hc])) (List.nodup_cons.mp nL).2 hn2 (by simp; omega) nd2
    refine ⟨ex ++ ex2, m2, s5'', s6'', fun r hr => ?_, by rw [← List.append_assoc]; exact g2, by simp; omega, ?_, P2.mono (by simp; omega)⟩
    · rcases List.mem_append.mp hr with hr | hr
      · exact ⟨(h1 r hr).1, (h1 r hr).2.2⟩
      · exact g1 r hr
    · rw [List.map_cons, forGo_cons (env := [.val (.ob n), .val (.int M), .val (.int S), .own (.dt (dn.map keyS) (dn.map valS)), .val (.int a), .val (.int b), s6]) (by simp [asg]) h3, g4, List.append_assoc]
theorem drawn_out {d n M S : Nat} (hd : 2 ≤ d) (hM : 0 < M) (hM3 : M ≤ 3) (hS : S ≤ 3) : ∀ (A : List Nat) (dn : List SR) (mem : List Ob) (k : Nat) (s4 s5 s6 : Slot), Pot mem n k → k + 12 * A.length < 1000000 → (∀ a ∈ A, a < S) → A.Nodup → (∀ r ∈ dn, r.a ∉ A) → dn.length + 3 * A.length ≤ 50 → (dn.map keyS).Nodup → (∀ r ∈ dn, SROk M S r) →
    ∃ (rows : List SR) (mem' : List Ob) (s4' s5' s6' : Slot), (∀ r ∈ rows, SROk M S r) ∧ (rows.map keyS).Nodup ∧ rows.length ≤ dn.length + 3 * A.length ∧ forGo (.nm 4) (exSs gc (callF gc 64 fs d) 64 l_law_drawn_strip_2_1) (A.map fun (i : Nat) => Tr.int i) ⟨[.val (.ob n), .val (.int M), .val (.int S), .own (.dt (dn.map keyS) (dn.map valS)), s4, s5, s6], mem⟩ =
      .ok .next ⟨[.val (.ob n), .val (.int M), .val (.int S), .own (.dt (rows.map keyS) (rows.map valS)), s4', s5', s6'], mem'⟩ ∧ Pot mem' n (k + 12 * A.length)
  | [], dn, mem, k, s4, s5, s6, P, _, _, _, _, _, nd, ok => ⟨dn, mem, s4, s5, s6, ok, nd, by simp, by simp [forGo], by simpa using P⟩
  | a :: A, dn, mem, k, s4, s5, s6, P, hk, hA, nA, hn, hl, nd, ok => by
    rw [List.length_cons] at hk hl
    have lr : (List.range M).length = M := List.length_range
    obtain ⟨ex, m1, s5', s6', h1, h2, h3, h4, P1⟩ := drawn_in hd hM hM3 hS (hA a (by simp)) (List.range M) dn mem k s5 s6 P (by omega) (fun b hb => List.mem_range.mp hb) List.nodup_range (fun b _ hm => by
      obtain ⟨r, hr, e⟩ := List.mem_map.mp hm
      have := hn r hr
      simp [keyS] at e
      exact this (by rw [show r.a = a by omega]; simp)) (by omega) nd
    obtain ⟨rows, m2, t4, t5, t6, g1, g2, g3, g4, P2⟩ := drawn_out hd hM hM3 hS A (dn ++ ex) m1 (k + 12) (.val (.int a)) s5' s6' (P1.mono (by omega)) (by omega) (fun c hc => hA c (by simp [hc])) (List.nodup_cons.mp nA).2 (fun r hr hm => by
      rcases List.mem_append.mp hr with hr | hr
      · exact hn r hr (by simp [hm])
      · rw [(h1 r hr).1] at hm
        exact (List.nodup_cons.mp nA).1 hm) (by simp; omega) h2 (fun r hr => by
      rcases List.mem_append.mp hr with hr | hr
      · exact ok r hr
      · exact (h1 r hr).2)
    refine ⟨rows, m2, t4, t5, t6, g1, g2, by simp at g3 ⊢; omega, ?_, P2.mono (by simp; omega)⟩
    have st : exSs gc (callF gc 64 fs d) 64 l_law_drawn_strip_2_1 ⟨[.val (.ob n), .val (.int M), .val (.int S), .own (.dt (dn.map keyS) (dn.map valS)), .val (.int a), s5, s6], mem⟩ = .ok .next ⟨[.val (.ob n), .val (.int M), .val (.int S), .own (.dt ((dn ++ ex).map keyS) ((dn ++ ex).map valS)), .val (.int a), s5', s6'], m1⟩ := by
      have ir := items_rg M (by omega)
      generalize (List.range M).map (fun (i : Nat) => Tr.int i) = RM at *
      generalize dn.map keyS = KK at *
      generalize dn.map valS = VV at *
      simp [l_law_drawn_strip_2_1, ir, h4]
    rw [List.map_cons, forGo_cons (env := [.val (.ob n), .val (.int M), .val (.int S), .own (.dt (dn.map keyS) (dn.map valS)), .val (.int a), s5, s6]) (by simp [asg]) st, g4]
theorem drawn_strip {d n k : Nat} {m : List Ob} (h : Pot m n k) (hk : k < 900000) (hd : 3 ≤ d) : ∃ (M S : Nat) (rows : List SR) (m' : List Ob), SOk M S rows ∧ S ≤ 3 ∧ callF gc 64 fs d n_law_drawn_strip_2 [.ob n] m = some (ownS M S rows, m') ∧ Pot m' n (k + 50) := by
  obtain ⟨d, rfl⟩ : ∃ d', d = d' + 1 := ⟨d - 1, by omega⟩
  obtain ⟨x, m1, hx, e1, P1⟩ := take_n (u := 2) (d := d) h (by omega) (by omega) (by omega) (by omega)
  obtain ⟨y, m2, hy, e2, P2⟩ := take_n (u := 3) (d := d) P1 (by omega) (by omega) (by omega) (by omega)
  obtain ⟨rows, m3, t4, t5, t6, g1, g2, g3, g4, P3⟩ := drawn_out (d := d) (M := 2 + x) (S := 1 + y) (by omega) (by omega) (by omega) (by omega) (List.range (1 + y)) [] m2 _ .none .none .none P2 (by simp; omega) (fun a ha => List.mem_range.mp ha) List.nodup_range (by simp) (by simp; omega) (by simp) (by simp)
  simp only [List.length_range, List.length_nil, List.map_nil] at g3 g4 P3
  have e1' : callF gc 64 fs d n_law_take [.ob n, .int 2] m = some (.int (x : Int), m1) := e1
  have e2' : callF gc 64 fs d n_law_take [.ob n, .int 3] m1 = some (.int (y : Int), m2) := e2
  have ir := items_rg (1 + y) (by omega)
  rw [show ((2 + x : Nat) : Int) = 2 + (x : Int) by omega, show ((1 + y : Nat) : Int) = 1 + (y : Int) by omega] at g4
  rw [show ((1 + y : Nat) : Int) = 1 + (y : Int) by omega] at ir
  have a5 : ∀ x y z : Tr, dspT [.str "marks", x, .str "states", y, .str "rows", z] = some ([.inr "marks", .inr "states", .inr "rows"], [x, y, z]) := fun x y z => rfl
  have a6 : ([.inr "marks", .inr "states", .inr "rows"] : List Key).Nodup ∧ ([.inr "marks", .inr "states", .inr "rows"] : List Key).length ≤ 15 := by decide +kernel
  simp only [List.length_cons, List.length_nil] at a6
  have dn0 : dspT [] = some ([], []) := rfl
  by_cases hr : rows = []
  · subst hr
    refine ⟨2 + x, 1 + y, [⟨0, 0, 0, true, 1 + y⟩], m3, ⟨by omega, by omega, by omega, by omega, fun r hr => ?_, by simp, by simp, by simp⟩, by omega, ?_, P3.mono (by omega)⟩
    · rw [List.mem_singleton.mp hr]
      exact ⟨by show 0 < 1 + y; omega, by show 0 < 2 + x; omega, by show 0 < 2 + x; omega, Nat.le_refl _⟩
    · rw [callS (fn := f_law_drawn_strip_2) rfl rfl rfl]
      unfold ownS
      simp only [List.map_cons, List.map_nil, keyS, valS, sd] at g4 ⊢
      rw [show ((2 + x : Nat) : Int) = 2 + (x : Int) by omega, show ((1 + y : Nat) : Int) = 1 + (y : Int) by omega]
      have kk : keysT [.int 0, .int 0] = some [.inl 0, .inl 0] := rfl
      have pv : ∀ t : Tr, putV [] [] ([.inl 0, .inl 0] : List Key) t = ([[.inl 0, .inl 0]], [t]) := fun t => rfl
      generalize (List.range (1 + y)).map (fun (i : Nat) => Tr.int i) = RG at *
      simp [f_law_drawn_strip_2, b_law_drawn_strip_2, e1', e2', ir, g4, a5, a6, dn0, kk, pv, manyGo, ownOb, d_own]
  · refine ⟨2 + x, 1 + y, rows, m3, ⟨by omega, by omega, by omega, by omega, g1, g2, hr, by omega⟩, by omega, ?_, P3.mono (by omega)⟩
    rw [callS (fn := f_law_drawn_strip_2) rfl rfl rfl]
    unfold ownS
    rw [show ((2 + x : Nat) : Int) = 2 + (x : Int) by omega, show ((1 + y : Nat) : Int) = 1 + (y : Int) by omega]
    have ne : (rows.map keyS).isEmpty = false := by
      cases rows with
      | nil => exact absurd rfl hr
      | cons _ _ => rfl
    generalize (List.range (1 + y)).map (fun (i : Nat) => Tr.int i) = RG at *
    generalize rows.map keyS = KK at *
    generalize rows.map valS = VV at *
    simp [f_law_drawn_strip_2, b_law_drawn_strip_2, e1', e2', ir, g4, a5, a6, dn0, ne, manyGo, ownOb, d_own]
end G
/-! The text of a strip of the law's own. -/
namespace G
open Ev PySem L2 TL
noncomputable def trK (r : SR) : Tr := .tup [.int r.a, .int r.b]
noncomputable def srt (rows : List SR) : List SR := rows.mergeSort fun r t => PySem.W.dataLe false dat (trK r) (trK t)
theorem srt_perm (rows : List SR) : (srt rows).Perm rows := List.mergeSort_perm _ _
theorem SOk.perm {M S : Nat} {rows rows' : List SR} (h : SOk M S rows) (p : rows'.Perm rows) : SOk M S rows' :=
  ⟨h.lo, h.hi, h.s1, h.s4, fun r hr => h.ok r (p.mem_iff.mp hr), (p.map keyS).nodup_iff.mpr h.nd, fun e => h.ne (by subst e; exact List.nil_perm.mp p), by rw [p.length_eq]; exact h.len⟩
theorem sort_rows (rows : List SR) : sortT (rows.map trK) = some (.lst ((srt rows).map trK)) := by
  have d1 : ∀ r : SR, dat (trK r) = .tuple [.int r.a, .int r.b] := fun r => rfl
  have ok : sortOk (rows.map trK) = true := by
    unfold sortOk
    simp only [Bool.and_eq_true, Bool.or_eq_true]
    refine ⟨⟨?_, ?_⟩, .inl ?_⟩
    · rw [List.all_eq_true]
      intro t ht
      obtain ⟨r, _, rfl⟩ := List.mem_map.mp ht
      rfl
    · rw [List.all_eq_true]
      intro t ht
      rw [List.all_eq_true]
      intro u hu
      obtain ⟨_, h1, rfl⟩ := List.mem_map.mp ht
      obtain ⟨r, _, rfl⟩ := List.mem_map.mp h1
      obtain ⟨_, h2, rfl⟩ := List.mem_map.mp hu
      obtain ⟨r2, _, rfl⟩ := List.mem_map.mp h2
      rw [d1, d1]
      simp [PySem.W.alike, PySem.W.alikeAll]
    · rw [List.all_eq_true]
      intro t ht
      obtain ⟨_, h1, rfl⟩ := List.mem_map.mp ht
      obtain ⟨r, _, rfl⟩ := List.mem_map.mp h1
      rfl
  unfold sortT
  rw [if_pos ok]
  have e := List.map_mergeSort (r := fun r t : SR => PySem.W.dataLe false dat (trK r) (trK t)) (s := PySem.W.dataLe false dat) (f := trK) (l := rows) (fun _ _ _ _ => rfl)
  rw [← e]
  rfl
theorem keys_tr (rows : List SR) : (rows.map keyS).map keyTup = rows.map trK := by
  rw [List.map_map]
  rfl
theorem getK_row : ∀ {rows : List SR} {r : SR}, (rows.map keyS).Nodup → r ∈ rows → getK (keyS r) (rows.map keyS) (rows.map valS) = some (valS r)
  | x :: rows, r, nd, hr => by
    rw [List.map_cons, List.nodup_cons] at nd
    rw [List.map_cons, List.map_cons, getK]
    rcases List.mem_cons.mp hr with rfl | hr
    · rw [if_pos rfl]
    · rw [if_neg fun e => nd.1 (by rw [e]; exact List.mem_map_of_mem hr), getK_row nd.2 hr]
theorem own_m (M S : Nat) (rows : List SR) : idxT (ownS M S rows) (.str "marks") = some (.int M) := rfl
theorem own_s (M S : Nat) (rows : List SR) : idxT (ownS M S rows) (.str "states") = some (.int S) := rfl
theorem own_r (M S : Nat) (rows : List SR) : idxT (ownS M S rows) (.str "rows") = some (.dt (rows.map keyS) (rows.map valS)) := rfl
theorem idx_row {rows : List SR} {r : SR} (nd : (rows.map keyS).Nodup) (h : r ∈ rows) : idxT (.dt (rows.map keyS) (rows.map valS)) (.tup [.int r.a, .int r.b]) = some (valS r) := by
  show ((keysT [.int r.a, .int r.b]).map fun k => getK k (rows.map keyS) (rows.map valS)).bind id = _
  rw [show keysT [.int (r.a : Int), .int (r.b : Int)] = some (keyS r) from rfl, Option.map_some, getK_row nd h]
  rfl
theorem join_sr {S : Nat} {r : SR} (h : r.small) : mtT .join (.str " ") [.lst ((srWords S r).map Tr.str)] = some (.str (srText S r)) := by
  refine join_of ?_
  have h2 := srWords_sum (S := S) h
  have e : (" " : Str).length = 1 := by decide +kernel
  have e2 : (srWords S r).length = 6 := rfl
  rw [e, e2]
  omega
theorem text_step {cf : CF} {M S : Nat} {mem : List Ob} {rows : List SR} {r : SR} {F : List Tr} {s4 s5 s6 s7 : Slot} (hM : M ≤ 3) (hS : S ≤ 4) (nd : (rows.map keyS).Nodup) (h : r ∈ rows) (hr : SROk M S r) (hl : F.length < 1000) :
    exSs gc cf 64 l_law_strip_text_0 ⟨[.val (ownS M S rows), .own (.lst F), .val (.int r.a), .val (.int r.b), s4, s5, s6, s7], mem⟩ =
      .ok .next ⟨[.val (ownS M S rows), .own (.lst (F ++ [.str (srText S r)])), .val (.int r.a), .val (.int r.b), .val (.int r.w), .val (.str (sd r.s)), .val (.int r.g), .val (.str (goalS S r))], mem⟩ := by
  obtain ⟨q1, q2, q3, q4⟩ := hr.small hM hS
  have e1 := join_sr (S := S) (hr.small hM hS)
  have n1 := str_num q1
  have n2 := str_num q2
  have n3 := str_num q3
  have n4 := str_num q4
  have ir : idxT (.dt (rows.map keyS) (rows.map valS)) (.tup [.int r.a, .int r.b]) = some (.tup [.int r.w, .str (sd r.s), .int r.g]) := idx_row nd h
  have ob2 : ∀ (ks : List (List Key)) (vs : List Tr) (y : Tr) (s2 : Sta), kIdx3 y s2 (.dt ks vs) = Rs.of (idxT (.dt ks vs) (s2.deref y)) s2 := fun ks vs y s2 => rfl
  have o1 := own_s M S rows
  have o2 := own_r M S rows
  have po : (ownS M S rows).pure = true := rfl
  have lo : ∀ s : Sta, s.deref (ownS M S rows) = ownS M S rows := fun s => rfl
  have ob : ∀ (y : Tr) (s2 : Sta), kIdx3 y s2 (ownS M S rows) = Rs.of (idxT (ownS M S rows) (s2.deref y)) s2 := fun y s2 => rfl
  have hl2 : F.length < 16777216 := by omega
  have key : ∀ z : Str, goalS S r = z → (decide ((r.g : Int) = (S : Int)) = true ∧ z = "end") ∨ (decide ((r.g : Int) = (S : Int)) = false ∧ z = numS r.g) := fun z hz => by
    unfold goalS at hz
    by_cases e : r.g = S
    · rw [if_pos e] at hz
      exact .inl ⟨decide_eq_true (by omega), hz.symm⟩
    · rw [if_neg e] at hz
      exact .inr ⟨decide_eq_false (by omega), hz.symm⟩
  have k := key _ rfl
  simp only [srWords, List.map_cons, List.map_nil] at e1
  generalize goalS S r = gz at *
  generalize srText S r = RT at *
  generalize numS r.a = A at *
  generalize numS r.b = B at *
  generalize numS r.w = W at *
  generalize numS r.g = Z at *
  generalize sd r.s = D at *
  generalize rows.map keyS = KK at *
  generalize rows.map valS = VV at *
  generalize ownS M S rows = O at *
  generalize (r.a : Int) = ra at *
  generalize (r.b : Int) = rb at *
  generalize (r.w : Int) = rw' at *
  generalize (r.g : Int) = rg at *
  rcases k with ⟨k1, rfl⟩ | ⟨k1, rfl⟩
  · simp [l_law_strip_text_0, e1, n1, n2, n3, n4, ir, o1, o2, po, lo, ob, ob2, hl2, k1, asg, asgs, recvOk, d_own, -b_strI, -kIdx3]
  · simp [l_law_strip_text_0, e1, n1, n2, n3, n4, ir, o1, o2, po, lo, ob, ob2, hl2, k1, asg, asgs, recvOk, d_own, -b_strI, -kIdx3]
theorem text_loop {cf : CF} {M S : Nat} {mem : List Ob} {rows : List SR} (hM : M ≤ 3) (hS : S ≤ 4) (nd : (rows.map keyS).Nodup) : ∀ (rest : List SR) (F : List Tr) (s2 s3 s4 s5 s6 s7 : Slot), (∀ r ∈ rest, r ∈ rows ∧ SROk M S r) → F.length + rest.length < 1000 →
    ∃ t2 t3 t4 t5 t6 t7, forGo (.tp [.nm 2, .nm 3]) (exSs gc cf 64 l_law_strip_text_0) (rest.map trK) ⟨[.val (ownS M S rows), .own (.lst F), s2, s3, s4, s5, s6, s7], mem⟩ =
      .ok .next ⟨[.val (ownS M S rows), .own (.lst (F ++ (rest.map (srText S)).map .str)), t2, t3, t4, t5, t6, t7], mem⟩
  | [], F, s2, s3, s4, s5, s6, s7, _, _ => ⟨s2, s3, s4, s5, s6, s7, by simp [forGo]⟩
  | r :: rest, F, s2, s3, s4, s5, s6, s7, h, hl => by
    rw [List.length_cons] at hl
    obtain ⟨h1, h2⟩ := h r (by simp)
    have st := text_step (cf := cf) (mem := mem) (s4 := s4) (s5 := s5) (s6 := s6) (s7 := s7) hM hS nd h1 h2 (F := F) (by omega)
    obtain ⟨t2, t3, t4, t5, t6, t7, hy⟩ := text_loop (cf := cf) (mem := mem) hM hS nd rest (F ++ [.str (srText S r)]) (.val (.int r.a)) (.val (.int r.b)) (.val (.int r.w)) (.val (.str (sd r.s))) (.val (.int r.g)) (.val (.str (goalS S r))) (fun x hx => h x (by simp [hx])) (by simp; omega)
    refine ⟨t2, t3, t4, t5, t6, t7, ?_⟩
    have ha : asg (.tp [.nm 2, .nm 3]) (trK r) [.val (ownS M S rows), .own (.lst F), s2, s3, s4, s5, s6, s7] = some [.val (ownS M S rows), .own (.lst F), .val (.int r.a), .val (.int r.b), s4, s5, s6, s7] := by simp [trK, asg, asgs]
    rw [List.map_cons, forGo_cons ha st, hy]
    simp
theorem join_strip {M S : Nat} {rows : List SR} (h : M < 100) (h2 : S < 100) (hr : ∀ r ∈ rows, r.small) (hl : rows.length ≤ 80) : mtT .join (.str "\n") [.lst ((strLines M S rows).map Tr.str)] = some (.str (strText M S rows)) := by
  refine join_of ?_
  have h3 := strLines_sum h h2 hr
  have e : ("\n" : Str).length = 1 := by decide +kernel
  have e2 : (strLines M S rows).length = rows.length + 2 := by simp [strLines]
  rw [e, e2]
  omega
theorem strip_text {d M S : Nat} {mem : List Ob} {rows : List SR} (hd : 1 ≤ d) (h : SOk M S rows) : callF gc 64 fs d n_law_strip_text [ownS M S rows] mem = some (.str (strText M S (srt rows)), mem) := by
  obtain ⟨d, rfl⟩ : ∃ d', d = d' + 1 := ⟨d - 1, by omega⟩
  have h' := h.perm (srt_perm rows)
  have hl := h'.len
  have q1 := h.hi
  have q2 := h.s4
  have e1 := join_strip (M := M) (S := S) (rows := srt rows) (by omega) (by omega) (fun r hr => (h'.ok r hr).small h.hi h.s4) (by omega)
  obtain ⟨t2, t3, t4, t5, t6, t7, e2⟩ := text_loop (cf := callF gc 64 fs d) (mem := mem) h.hi h.s4 h.nd (srt rows) [.str (marksL M), .str (statesL S)] .none .none .none .none .none .none (fun r hr => ⟨(srt_perm rows).mem_iff.mp hr, h'.ok r hr⟩) (by simp; omega)
  have e3 : biT .sorted [.dt (rows.map keyS) (rows.map valS)] = some (.lst ((srt rows).map trK)) := by
    show sortT ((rows.map keyS).map keyTup) = _
    rw [keys_tr, sort_rows]
  have f1 : opB .add (.str "marks ") (.str (numS M)) = some (.str (marksL M)) := opB_addS (by
    have := len_numS (n := M) (by omega)
    have e : ("marks " : Str).length = 6 := by decide +kernel
    rw [e, Ev.sizeLine_eq]
    omega)
  have f2 : opB .add (.str "states ") (.str (numS S)) = some (.str (statesL S)) := opB_addS (by
    have := len_numS (n := S) (by omega)
    have e : ("states " : Str).length = 7 := by decide +kernel
    rw [e, Ev.sizeLine_eq]
    omega)
  have n1 := str_num (n := M) (by omega)
  have n2 := str_num (n := S) (by omega)
  have o0 := own_m M S rows
  have o1 := own_s M S rows
  have o2 := own_r M S rows
  have po : (ownS M S rows).pure = true := rfl
  have lo : ∀ s : Sta, s.deref (ownS M S rows) = ownS M S rows := fun s => rfl
  have ob : ∀ (y : Tr) (s2 : Sta), kIdx3 y s2 (ownS M S rows) = Rs.of (idxT (ownS M S rows) (s2.deref y)) s2 := fun y s2 => rfl
  have hm : ∀ l : List Tr, items 0 [.lst l] = some l := fun l => rfl
  have ob2 : ∀ (ks : List (List Key)) (vs : List Tr) (y : Tr) (s2 : Sta), kIdx3 y s2 (.dt ks vs) = Rs.of (idxT (.dt ks vs) (s2.deref y)) s2 := fun ks vs y s2 => rfl
  simp only [strLines, List.map_cons] at e1
  rw [callS (fn := f_law_strip_text) rfl rfl rfl]
  generalize strText M S (srt rows) = T at *
  generalize ((srt rows).map (srText S)).map Tr.str = SL at *
  generalize (srt rows).map trK = KL at *
  generalize rows.map keyS = KK at *
  generalize rows.map valS = VV at *
  generalize ownS M S rows = O at *
  generalize marksL M = ML at *
  generalize statesL S = TL at *
  generalize numS M = NM at *
  generalize numS S = NS at *
  simp [f_law_strip_text, b_law_strip_text, e1, e2, e3, f1, f2, n1, n2, o0, o1, o2, po, lo, ob, hm, recvOk, d_own, -b_strI, -kIdx3]
end G
/-! Standings: marks cut, a step. -/
namespace G
open Ev PySem L2 TL
noncomputable def cutN : List Nat → List Nat
  | [] => []
  | x :: l => match cutN l with
    | [] => if x = 0 then [] else [x]
    | y :: r => x :: y :: r
theorem cutN_len : ∀ l : List Nat, (cutN l).length ≤ l.length
  | [] => Nat.le_refl _
  | x :: l => by
    have := cutN_len l
    rw [cutN]
    split
    · split <;> simp
    · rename_i e
      rw [e] at this
      simp at this ⊢
      omega
theorem cutN_take : ∀ l : List Nat, l.take (cutN l).length = cutN l
  | [] => rfl
  | x :: l => by
    have := cutN_take l
    rw [cutN]
    split
    · split <;> simp
    · rename_i e
      rw [e] at this
      simp at this ⊢
      exact this
theorem cutN_mem {l : List Nat} {x : Nat} (h : x ∈ cutN l) : x ∈ l := by
  rw [← cutN_take l] at h
  exact List.mem_of_mem_take h
theorem cutN_idem : ∀ l : List Nat, cutN (cutN l) = cutN l
  | [] => rfl
  | x :: l => by
    have := cutN_idem l
    rw [cutN]
    split
    · split
      · rfl
      · rename_i h
        simp [cutN, h]
    · rename_i e
      rw [e] at this
      rw [cutN, this]
theorem cutN_tail {l : List Nat} (h : cutN l = l) : cutN l.tail = l.tail := by
  cases l with
  | nil => rfl
  | cons x l =>
    rw [cutN] at h
    split at h
    · rename_i e
      split at h
      · cases h
      · injection h with _ h
        subst h
        rfl
    · rename_i e
      injection h with _ h
      rw [List.tail_cons, e, h]
noncomputable abbrev St := Nat × List Nat × List Nat
noncomputable def findS (rows : List SR) (a b : Nat) : Option SR := rows.find? fun r => decide (r.a = a ∧ r.b = b)
theorem findS_some {rows : List SR} {a b : Nat} {r : SR} (h : findS rows a b = some r) : r ∈ rows ∧ r.a = a ∧ r.b = b := by
  refine ⟨List.mem_of_find?_eq_some h, ?_⟩
  have := List.find?_some h
  exact of_decide_eq_true this
theorem key_eq {r t : SR} : keyS r = keyS t ↔ r.a = t.a ∧ r.b = t.b := by
  simp [keyS]
  omega
noncomputable def stepS (r : SR) (t : St) : St := if r.s then (r.g, cutN (r.w :: t.2.1), t.2.2.tail) else (r.g, t.2.1.tail, cutN (t.2.1.headD 0 :: r.w :: t.2.2.tail))
noncomputable def nextS (rows : List SR) (t : St) : Option St := (findS rows t.1 (t.2.2.headD 0)).map fun r => stepS r t
/-- a standing of a strip -/
structure VS (M S n : Nat) (t : St) : Prop where
  s : t.1 ≤ S
  l : ∀ x ∈ t.2.1, x < M
  r : ∀ x ∈ t.2.2, x < M
  cl : cutN t.2.1 = t.2.1
  cr : cutN t.2.2 = t.2.2
  len : t.2.1.length + t.2.2.length ≤ n
theorem VS.mono {M S n n' : Nat} {t : St} (h : VS M S n t) (hn : n ≤ n') : VS M S n' t := ⟨h.s, h.l, h.r, h.cl, h.cr, Nat.le_trans h.len hn⟩
theorem headD_lt {M : Nat} (hM : 0 < M) {l : List Nat} (h : ∀ x ∈ l, x < M) : l.headD 0 < M := by
  cases l with
  | nil => exact hM
  | cons x l => exact h x (by simp)
theorem tail_mem {l : List Nat} {x : Nat} (h : x ∈ l.tail) : x ∈ l := by
  cases l with
  | nil => cases h
  | cons y l => exact List.mem_cons_of_mem _ h
theorem VS.step {M S n : Nat} {t : St} {r : SR} (hM : 0 < M) (hn : 1 ≤ n) (h : VS M S n t) (hr : SROk M S r) : VS M S (n + 1) (stepS r t) := by
  have hl := h.len
  have t1 : t.2.1.tail.length = t.2.1.length - 1 := by simp
  have t2 : t.2.2.tail.length = t.2.2.length - 1 := by simp
  unfold stepS
  split
  · refine ⟨hr.g, fun x hx => ?_, fun x hx => h.r x (tail_mem hx), cutN_idem _, cutN_tail h.cr, ?_⟩
    · rcases List.mem_cons.mp (cutN_mem hx) with rfl | hx
      · exact hr.w
      · exact h.l x hx
    · have := cutN_len (r.w :: t.2.1)
      rw [List.length_cons] at this
      show (cutN (r.w :: t.2.1)).length + t.2.2.tail.length ≤ n + 1
      omega
  · refine ⟨hr.g, fun x hx => h.l x (tail_mem hx), fun x hx => ?_, cutN_tail h.cl, cutN_idem _, ?_⟩
    · rcases List.mem_cons.mp (cutN_mem hx) with rfl | hx
      · exact headD_lt hM h.l
      · rcases List.mem_cons.mp hx with rfl | hx
        · exact hr.w
        · exact h.r x (tail_mem hx)
    · have := cutN_len (t.2.1.headD 0 :: r.w :: t.2.2.tail)
      rw [List.length_cons, List.length_cons] at this
      show t.2.1.tail.length + (cutN (t.2.1.headD 0 :: r.w :: t.2.2.tail)).length ≤ n + 1
      omega
theorem VS.next {M S n : Nat} {t t' : St} {rows : List SR} (hM : 0 < M) (hn : 1 ≤ n) (h : VS M S n t) (hr : ∀ r ∈ rows, SROk M S r) (e : nextS rows t = some t') : VS M S (n + 1) t' := by
  unfold nextS at e
  obtain ⟨r, e1, rfl⟩ := Option.map_eq_some_iff.mp e
  exact h.step hM hn (hr r (findS_some e1).1)
/-! repr -/
end G
/-! Marks cut by the law and by the program; the law's own step. -/
namespace G
open Ev PySem L2 TL
/-! the program's -/
end G
/-! A step: the law's and the program's. -/
namespace G
open Ev PySem L2 TL
end G
/-! The program's step; what it asks of standings. -/
namespace G
open Ev PySem L2 TL
section
variable {M S : Nat} {rows : List SR}
theorem fS_rows (s1 : Sta) : kFld2 "own_rows" s1 (trS M S rows) = .ok (.dt (rows.map keyS) (rows.map valS)) s1 := rfl
theorem fS_marks (s1 : Sta) : kFld2 "own_marks" s1 (trS M S rows) = .ok (.int M) s1 := rfl
theorem fS_states (s1 : Sta) : kFld2 "own_states" s1 (trS M S rows) = .ok (.int S) s1 := rfl
theorem pS : (trS M S rows).pure = true := rfl
theorem dS (s : Sta) : s.deref (trS M S rows) = trS M S rows := rfl
theorem cS : isCT "Strip" (trS M S rows) = some (.bl true) := rfl
end
end G
/-! Standings checked; follows; runs. -/
namespace G
open Ev PySem L2 TL
theorem check_strip {d M S : Nat} {mem : List Ob} {rows : List SR} (hd : 1 ≤ d) : callF gc 64 fs d n_check_strip [trS M S rows] mem = some (.non, mem) := by
  obtain ⟨d, rfl⟩ : ∃ d', d = d' + 1 := ⟨d - 1, by omega⟩
  have f1 := pS (M := M) (S := S) (rows := rows)
  have f2 := dS (M := M) (S := S) (rows := rows)
  have f3 := cS (M := M) (S := S) (rows := rows)
  rw [callS (fn := f_check_strip) rfl rfl rfl]
  generalize trS M S rows = O at *
  simp [f_check_strip, b_check_strip, f1, f2, f3]
/-! runs -/
end G
/-! Numbers by figures. -/
namespace G
open Ev PySem L2 TL
end G
/-! The machine that a strip is led to: plainly. -/
namespace G
open Ev PySem L2 TL
noncomputable def mB (M S : Nat) : Nat := M + S + 1
noncomputable def figL (M S : Nat) (r : SR) : Nat := r.w * mB M S + M + r.g
noncomputable def ledL (M S : Nat) : List SR → List Row
  | [] => []
  | r :: rs => ⟨M + r.a, r.b, figL M S r, r.s⟩ :: ⟨r.b, M + r.a, figL M S r, r.s⟩ :: ledL M S rs
noncomputable def ledR (M S : Nat) (rs : List SR) : List Row := ledL M S rs ++ [⟨M + S, 0, 0, true⟩, ⟨0, M + S, 0, true⟩]
theorem mem_ledL {M S : Nat} {x : Row} : ∀ {rs : List SR}, x ∈ ledL M S rs ↔ ∃ r ∈ rs, x = ⟨M + r.a, r.b, figL M S r, r.s⟩ ∨ x = ⟨r.b, M + r.a, figL M S r, r.s⟩
  | [] => by simp [ledL]
  | r :: rs => by
    rw [ledL, List.mem_cons, List.mem_cons, mem_ledL (rs := rs)]
    constructor
    · rintro (h | h | ⟨t, ht, h⟩)
      · exact ⟨r, by simp, .inl h⟩
      · exact ⟨r, by simp, .inr h⟩
      · exact ⟨t, by simp [ht], h⟩
    · rintro ⟨t, ht, h⟩
      rcases List.mem_cons.mp ht with rfl | ht
      · rcases h with h | h
        · exact .inl h
        · exact .inr (.inl h)
      · exact .inr (.inr ⟨t, ht, h⟩)
theorem mem_ledR {M S : Nat} {x : Row} {rs : List SR} : x ∈ ledR M S rs ↔ (∃ r ∈ rs, x = ⟨M + r.a, r.b, figL M S r, r.s⟩ ∨ x = ⟨r.b, M + r.a, figL M S r, r.s⟩) ∨ x = ⟨M + S, 0, 0, true⟩ ∨ x = ⟨0, M + S, 0, true⟩ := by
  unfold ledR
  rw [List.mem_append, mem_ledL]
  simp
theorem fig_lt {M S : Nat} {r : SR} (h : SROk M S r) : figL M S r < mB M S * mB M S := by
  have hw := h.w
  have hg := h.g
  unfold figL
  have h1 : (r.w + 1) * mB M S ≤ mB M S * mB M S := Nat.mul_le_mul_right _ (by unfold mB; omega)
  rw [Nat.add_mul] at h1
  unfold mB at *
  omega
theorem ledL_len (M S : Nat) : ∀ rs : List SR, (ledL M S rs).length = 2 * rs.length
  | [] => rfl
  | r :: rs => by rw [ledL, List.length_cons, List.length_cons, ledL_len M S rs, List.length_cons]; omega
theorem ledL_nd {M S : Nat} : ∀ {rs : List SR}, (rs.map keyS).Nodup → (∀ r ∈ rs, SROk M S r) → ((ledL M S rs).map fun r => (r.a, r.b)).Nodup
  | [], _, _ => by simp [ledL]
  | r :: rs, nd, h => by
    rw [List.map_cons, List.nodup_cons] at nd
    have ih := ledL_nd nd.2 fun x hx => h x (by simp [hx])
    have hb := (h r (by simp)).b
    have other : ∀ x ∈ ledL M S rs, ∃ t ∈ rs, t.b < M ∧ ¬ (t.a = r.a ∧ t.b = r.b) ∧ ((x.a = M + t.a ∧ x.b = t.b) ∨ (x.a = t.b ∧ x.b = M + t.a)) := fun x hx => by
      obtain ⟨t, ht, e⟩ := mem_ledL.mp hx
      refine ⟨t, ht, (h t (by simp [ht])).b, fun e2 => nd.1 (List.mem_map.mpr ⟨t, ht, key_eq.mpr e2⟩), ?_⟩
      rcases e with rfl | rfl
      · exact .inl ⟨rfl, rfl⟩
      · exact .inr ⟨rfl, rfl⟩
    rw [ledL, List.map_cons, List.map_cons, List.nodup_cons, List.nodup_cons]
    refine ⟨fun hm => ?_, fun hm => ?_, ih⟩
    · rcases List.mem_cons.mp hm with e | hm
      · injection e with e1 e2
        dsimp only at e1 e2
        omega
      · obtain ⟨x, hx, e⟩ := List.mem_map.mp hm
        obtain ⟨t, _, h1, h2, h3⟩ := other x hx
        injection e with e1 e2
        dsimp only at e1 e2
        rcases h3 with ⟨g1, g2⟩ | ⟨g1, g2⟩
        · exact h2 ⟨by omega, by omega⟩
        · omega
    · obtain ⟨x, hx, e⟩ := List.mem_map.mp hm
      obtain ⟨t, _, h1, h2, h3⟩ := other x hx
      injection e with e1 e2
      dsimp only at e1 e2
      rcases h3 with ⟨g1, g2⟩ | ⟨g1, g2⟩
      · omega
      · exact h2 ⟨by omega, by omega⟩
theorem ledR_nd {M S : Nat} {rs : List SR} (nd : (rs.map keyS).Nodup) (h : ∀ r ∈ rs, SROk M S r) (hM : 0 < M) : ((ledR M S rs).map keyR).Nodup := by
  refine nodup_keys ?_
  unfold ledR
  rw [List.map_append, List.nodup_append]
  refine ⟨ledL_nd nd h, by simp; omega, fun x hx y hy e => ?_⟩
  subst e
  obtain ⟨z, hz, rfl⟩ := List.mem_map.mp hx
  obtain ⟨t, ht, e⟩ := mem_ledL.mp hz
  have ha := (h t ht).a
  have hb := (h t ht).b
  simp at hy
  rcases e with rfl | rfl <;> dsimp only at hy <;> omega
theorem led_ok {M S : Nat} {rs : List SR} (h : SOk M S rs) : MOk (mB M S) (ledR M S rs) := by
  have hM := h.lo
  have hM3 := h.hi
  have hS := h.s1
  have hS4 := h.s4
  have hl := h.len
  refine ⟨by unfold mB; omega, by unfold mB; omega, fun x hx => ?_, ledR_nd h.nd h.ok (by omega), by unfold ledR; simp, by unfold ledR; rw [List.length_append, ledL_len]; simp; omega⟩
  rcases mem_ledR.mp hx with ⟨r, hr, e⟩ | rfl | rfl
  · have ok := h.ok r hr
    have ha := ok.a
    have hb := ok.b
    have hf := fig_lt ok
    rcases e with rfl | rfl
    · exact ⟨by show M + r.a < mB M S; unfold mB; omega, by show r.b < mB M S; unfold mB; omega, hf, by show ¬ (M + r.a = 0 ∧ r.b = 0); omega⟩
    · exact ⟨by show r.b < mB M S; unfold mB; omega, by show M + r.a < mB M S; unfold mB; omega, hf, by show ¬ (r.b = 0 ∧ M + r.a = 0); omega⟩
  · exact ⟨by show M + S < mB M S; unfold mB; omega, by show 0 < mB M S; unfold mB; omega, Nat.mul_pos (by unfold mB; omega) (by unfold mB; omega), by show ¬ (M + S = 0 ∧ 0 = 0); omega⟩
  · exact ⟨by show 0 < mB M S; unfold mB; omega, by show M + S < mB M S; unfold mB; omega, Nat.mul_pos (by unfold mB; omega) (by unfold mB; omega), by show ¬ (0 = 0 ∧ M + S = 0); omega⟩
/-! the next pair by its row -/
/-! pairs of standings -/
noncomputable def pr (a b : Nat) : Int × Int := ((a : Int), (b : Int))
end G
/-! The machine that a strip is led to: the program's and the law's. -/
namespace G
open Ev PySem L2 TL
theorem figures_of {d M S : Nat} {mem : List Ob} {rs : List SR} (hd : 1 ≤ d) : callF gc 64 fs d n_figures_of [trS M S rs] mem = some (.int (mB M S : Nat), mem) := by
  obtain ⟨d, rfl⟩ : ∃ d', d = d' + 1 := ⟨d - 1, by omega⟩
  have f0 := fS_marks (M := M) (S := S) (rows := rs)
  have f3 := fS_states (M := M) (S := S) (rows := rs)
  have f1 := pS (M := M) (S := S) (rows := rs)
  have f2 := dS (M := M) (S := S) (rows := rs)
  have e : ((mB M S : Nat) : Int) = (M : Int) + (S : Int) + 1 := by unfold mB; omega
  rw [e, callS (fn := f_figures_of) rfl rfl rfl]
  generalize trS M S rs = O at *
  simp [f_figures_of, b_figures_of, f0, f1, f2, f3, -kFld2]
theorem row_texts {d : Nat} {mem : List Ob} {r : Row} (hd : 1 ≤ d) (h : r.small) : callF gc 64 fs d n_row_texts_2 [.int r.a, .int r.b, .int r.f, .str (sd r.s)] mem = some (.str (rowText r), mem) := by
  obtain ⟨d, rfl⟩ : ∃ d', d = d' + 1 := ⟨d - 1, by omega⟩
  have e1 := join_row h
  have n1 := str_num h.1
  have n2 := str_num h.2.1
  have n3 := str_num h.2.2
  simp only [rowWords, List.map_cons, List.map_nil] at e1
  rw [callS (fn := f_row_texts_2) rfl rfl rfl]
  generalize rowText r = RT at *
  generalize numS r.a = A at *
  generalize numS r.b = B at *
  generalize numS r.f = C at *
  generalize sd r.s = D at *
  simp [f_row_texts_2, b_row_texts_2, e1, n1, n2, n3, recvOk, -b_strI]
theorem fig_small {M S : Nat} {r : SR} (h : SROk M S r) (hM : M ≤ 3) (hS : S ≤ 4) : figL M S r < 100 := by
  have := fig_lt h
  have : mB M S * mB M S ≤ 8 * 8 := Nat.mul_le_mul (by unfold mB; omega) (by unfold mB; omega)
  omega
theorem fig_int {M S : Nat} (r : SR) : (r.w : Int) * ((mB M S : Nat) : Int) + (M : Int) + (r.g : Int) = ((figL M S r : Nat) : Int) := by
  unfold figL
  simp
theorem led_step {d M S : Nat} {mem : List Ob} {rs : List SR} {r : SR} {F : List Tr} {x3 s7 s8 s9 s10 : Slot} (hd : 1 ≤ d) (hM : M ≤ 3) (hS : S ≤ 4) (nd : (rs.map keyS).Nodup) (h : r ∈ rs) (hr : SROk M S r) (hl : F.length < 1000) :
    exSs gc (callF gc 64 fs d) 64 l_led_text_2_0 ⟨[.val (trS M S rs), .val (.int (mB M S : Nat)), .val (.int M), x3, .own (.lst F), .val (.int r.a), .val (.int r.b), s7, s8, s9, s10], mem⟩ =
      .ok .next ⟨[.val (trS M S rs), .val (.int (mB M S : Nat)), .val (.int M), x3, .own (.lst (F ++ [.str (rowText ⟨M + r.a, r.b, figL M S r, r.s⟩), .str (rowText ⟨r.b, M + r.a, figL M S r, r.s⟩)])), .val (.int r.a), .val (.int r.b), .val (.int r.w), .val (.str (sd r.s)), .val (.int r.g), .val (.int (figL M S r : Nat))], mem⟩ := by
  have fs1 := fig_small hr hM hS
  have ha := hr.a
  have hb := hr.b
  have hw := hr.w
  have e1 := row_texts (d := d) (mem := mem) (r := ⟨M + r.a, r.b, figL M S r, r.s⟩) hd ⟨by show M + r.a < 100; omega, by show r.b < 100; omega, fs1⟩
  have e2 := row_texts (d := d) (mem := mem) (r := ⟨r.b, M + r.a, figL M S r, r.s⟩) hd ⟨by show r.b < 100; omega, by show M + r.a < 100; omega, fs1⟩
  dsimp only at e1 e2
  rw [show ((M + r.a : Nat) : Int) = (M : Int) + (r.a : Int) by omega] at e1 e2
  have ir : idxT (.dt (rs.map keyS) (rs.map valS)) (.tup [.int r.a, .int r.b]) = some (.tup [.int r.w, .str (sd r.s), .int r.g]) := idx_row nd h
  have f0 := fS_rows (M := M) (S := S) (rows := rs)
  have f1 := pS (M := M) (S := S) (rows := rs)
  have f2 := dS (M := M) (S := S) (rows := rs)
  have ob2 : ∀ (ks : List (List Key)) (vs : List Tr) (y : Tr) (s2 : Sta), kIdx3 y s2 (.dt ks vs) = Rs.of (idxT (.dt ks vs) (s2.deref y)) s2 := fun ks vs y s2 => rfl
  have mu : opB .mul (.int (r.w : Int)) (.int ((mB M S : Nat) : Int)) = some (.int ((r.w : Int) * ((mB M S : Nat) : Int))) := opB_mul (.of64 (by omega) (by omega)) (.of64 (by omega) (by unfold mB; omega))
  have fi := fig_int (M := M) (S := S) r
  have l1 : F.length < 16777216 := by omega
  have l2 : F.length + 1 < 16777216 := by omega
  generalize rowText ⟨M + r.a, r.b, figL M S r, r.s⟩ = T1 at *
  generalize rowText ⟨r.b, M + r.a, figL M S r, r.s⟩ = T2 at *
  generalize sd r.s = D at *
  generalize rs.map keyS = KK at *
  generalize rs.map valS = VV at *
  generalize trS M S rs = O at *
  generalize ((figL M S r : Nat) : Int) = fg at *
  generalize ((mB M S : Nat) : Int) = mb at *
  generalize (r.a : Int) = ra at *
  generalize (r.b : Int) = rb at *
  generalize (r.w : Int) = rw' at *
  generalize (r.g : Int) = rg at *
  generalize (M : Int) = iM at *
  generalize rw' * mb = pm at *
  subst fi
  simp [l_led_text_2_0, e1, e2, ir, f0, f1, f2, ob2, mu, l1, l2, asg, asgs, d_own, -kFld2, -kIdx3]
theorem led_loop {d M S : Nat} {mem : List Ob} {rs : List SR} {x3 : Slot} (hd : 1 ≤ d) (hM : M ≤ 3) (hS : S ≤ 4) (nd : (rs.map keyS).Nodup) : ∀ (rest : List SR) (F : List Tr) (s5 s6 s7 s8 s9 s10 : Slot), (∀ r ∈ rest, r ∈ rs ∧ SROk M S r) → F.length + 2 * rest.length < 1000 →
    ∃ t5 t6 t7 t8 t9 t10, forGo (.tp [.nm 5, .nm 6]) (exSs gc (callF gc 64 fs d) 64 l_led_text_2_0) (rest.map trK) ⟨[.val (trS M S rs), .val (.int (mB M S : Nat)), .val (.int M), x3, .own (.lst F), s5, s6, s7, s8, s9, s10], mem⟩ =
      .ok .next ⟨[.val (trS M S rs), .val (.int (mB M S : Nat)), .val (.int M), x3, .own (.lst (F ++ ((ledL M S rest).map rowText).map .str)), t5, t6, t7, t8, t9, t10], mem⟩
  | [], F, s5, s6, s7, s8, s9, s10, _, _ => ⟨s5, s6, s7, s8, s9, s10, by simp [forGo, ledL]⟩
  | r :: rest, F, s5, s6, s7, s8, s9, s10, h, hl => by
    rw [List.length_cons] at hl
    obtain ⟨h1, h2⟩ := h r (by simp)
    have st := led_step (d := d) (mem := mem) (x3 := x3) (s7 := s7) (s8 := s8) (s9 := s9) (s10 := s10) hd hM hS nd h1 h2 (F := F) (by omega)
    obtain ⟨t5, t6, t7, t8, t9, t10, hy⟩ := led_loop (d := d) (mem := mem) (x3 := x3) hd hM hS nd rest (F ++ [.str (rowText ⟨M + r.a, r.b, figL M S r, r.s⟩), .str (rowText ⟨r.b, M + r.a, figL M S r, r.s⟩)]) (.val (.int r.a)) (.val (.int r.b)) (.val (.int r.w)) (.val (.str (sd r.s))) (.val (.int r.g)) (.val (.int (figL M S r : Nat))) (fun x hx => h x (by simp [hx])) (by simp; omega)
    refine ⟨t5, t6, t7, t8, t9, t10, ?_⟩
    have ha : asg (.tp [.nm 5, .nm 6]) (trK r) [.val (trS M S rs), .val (.int (mB M S : Nat)), .val (.int M), x3, .own (.lst F), s5, s6, s7, s8, s9, s10] = some [.val (trS M S rs), .val (.int (mB M S : Nat)), .val (.int M), x3, .own (.lst F), .val (.int r.a), .val (.int r.b), s7, s8, s9, s10] := by simp [trK, asg, asgs]
    rw [List.map_cons, forGo_cons ha st, hy]
    simp [ledL]
theorem led_text {d M S : Nat} {mem : List Ob} {rs : List SR} (hd : 2 ≤ d) (h : SOk M S rs) : callF gc 64 fs d n_led_text_2 [trS M S rs] mem = some (.str (macText (mB M S) (ledR M S (srt rs))), mem) := by
  obtain ⟨d, rfl⟩ : ∃ d', d = d' + 1 := ⟨d - 1, by omega⟩
  have h' := h.perm (srt_perm rs)
  have hM := h.hi
  have hM2 := h.lo
  have hS := h.s4
  have hl := h'.len
  have mo := led_ok h'
  have hm9 := mo.hi
  have e0 := figures_of (d := d) (mem := mem) (M := M) (S := S) (rs := rs) (by omega)
  obtain ⟨t5, t6, t7, t8, t9, t10, e1⟩ := led_loop (d := d) (mem := mem) (x3 := .val (.int ((M : Int) + (S : Int)))) (by omega) hM hS h.nd (srt rs) [.str (firstLine (mB M S))] .none .none .none .none .none .none (fun r hr => ⟨(srt_perm rs).mem_iff.mp hr, h'.ok r hr⟩) (by simp; omega)
  have e2 := row_texts (d := d) (mem := mem) (r := ⟨M + S, 0, 0, true⟩) (by omega) ⟨by show M + S < 100; omega, by show 0 < 100; omega, by show 0 < 100; omega⟩
  have e3 := row_texts (d := d) (mem := mem) (r := ⟨0, M + S, 0, true⟩) (by omega) ⟨by show 0 < 100; omega, by show M + S < 100; omega, by show 0 < 100; omega⟩
  dsimp only at e2 e3
  rw [show ((M + S : Nat) : Int) = (M : Int) + (S : Int) by omega, show sd true = "right" from rfl] at e2 e3
  have e4 := join_text (m := mB M S) (rows := ledR M S (srt rs)) (by omega) (fun r hr => (mo.ok r hr).small hm9) mo.len
  have e5 : biT .sorted [.dt (rs.map keyS) (rs.map valS)] = some (.lst ((srt rs).map trK)) := by
    show sortT ((rs.map keyS).map keyTup) = _
    rw [keys_tr, sort_rows]
  have ml : (macLines (mB M S) (ledR M S (srt rs))).map Tr.str = [.str (firstLine (mB M S))] ++ ((ledL M S (srt rs)).map rowText).map .str ++ [.str (rowText ⟨M + S, 0, 0, true⟩), .str (rowText ⟨0, M + S, 0, true⟩)] := by
    simp [macLines, ledR]
  rw [ml] at e4
  have fl : opB .add (.str "figures ") (.str (numS (mB M S))) = some (.str (firstLine (mB M S))) := opB_addS (by
    have := len_numS (n := mB M S) (by omega)
    have e : ("figures " : Str).length = 8 := by decide +kernel
    rw [e, Ev.sizeLine_eq]
    omega)
  have n1 := str_num (n := mB M S) (by omega)
  have f0 := fS_marks (M := M) (S := S) (rows := rs)
  have f3 := fS_states (M := M) (S := S) (rows := rs)
  have f4 := fS_rows (M := M) (S := S) (rows := rs)
  have f1 := pS (M := M) (S := S) (rows := rs)
  have f2 := dS (M := M) (S := S) (rows := rs)
  have it : ∀ l : List Tr, items 0 [.lst l] = some l := fun l => rfl
  have sq : ∀ l : List Tr, seqT (.lst l) = some l := fun l => rfl
  have len0 : ((ledL M S (srt rs)).map rowText).length = 2 * (srt rs).length := by rw [List.length_map, ledL_len]
  have e4' : mtT .join (.str "\n") [.lst ([.str (firstLine (mB M S))] ++ ((ledL M S (srt rs)).map rowText).map .str ++ [.str (rowText ⟨M + S, 0, 0, true⟩), .str (rowText ⟨0, M + S, 0, true⟩)])] = some (.str (macText (mB M S) (ledR M S (srt rs)))) := e4
  rw [callS (fn := f_led_text_2) rfl rfl rfl]
  have pl : (((ledL M S (srt rs)).map rowText).map Tr.str).all Tr.pure = true := by
    rw [List.all_eq_true]
    intro x hx
    obtain ⟨y, _, rfl⟩ := List.mem_map.mp hx
    rfl
  have pl' := eq_true (List.all_eq_true.mp pl)
  have len1 : (((ledL M S (srt rs)).map rowText).map Tr.str).length + 1 + 1 + 1 ≤ 16777216 := by rw [List.length_map, len0]; omega
  generalize ((ledL M S (srt rs)).map rowText).map Tr.str = LL at *
  generalize (srt rs).map trK = KL at *
  generalize rs.map keyS = KK at *
  generalize rs.map valS = VV at *
  generalize macText (mB M S) (ledR M S (srt rs)) = TX at *
  generalize rowText ⟨M + S, 0, 0, true⟩ = R1 at *
  generalize rowText ⟨0, M + S, 0, true⟩ = R2 at *
  generalize firstLine (mB M S) = FL at *
  generalize numS (mB M S) = NM at *
  generalize trS M S rs = O at *
  generalize ((mB M S : Nat) : Int) = mb at *
  simp at e2 e3 e4'
  simp [f_led_text_2, b_led_text_2, e0, e1, e2, e3, e4', e5, fl, n1, f0, f1, f2, f3, f4, it, sq, pl', len1, manyGo, asg, asgs, recvOk, d_own, -kFld2, -b_strI]
end G
/-! The led machine made; the pairs of standings. -/
namespace G
open Ev PySem L2 TL
theorem led {d M S : Nat} {mem : List Ob} {rs : List SR} (hd : 8 ≤ d) (h : SOk M S rs) : callF gc 64 fs d n_led_2 [trS M S rs] mem = some (trM (mB M S) (ledR M S (srt rs)), mem ++ [.gone]) := by
  obtain ⟨d, rfl⟩ : ∃ d', d = d' + 1 := ⟨d - 1, by omega⟩
  have e1 := led_text (d := d) (mem := mem) (by omega) h
  have e2 := machine (d := d) (mem := mem) (by omega) (led_ok (h.perm (srt_perm rs)))
  have e3 := check_strip (d := d) (mem := mem) (M := M) (S := S) (rows := rs) (by omega)
  have f1 := pS (M := M) (S := S) (rows := rs)
  have f2 := dS (M := M) (S := S) (rows := rs)
  have g1 : (trM (mB M S) (ledR M S (srt rs))).pure = true := rfl
  rw [callS (fn := f_led_2) rfl rfl rfl]
  generalize trM (mB M S) (ledR M S (srt rs)) = TM at *
  generalize macText (mB M S) (ledR M S (srt rs)) = TX at *
  generalize trS M S rs = O at *
  generalize mem ++ [.gone] = m2 at *
  simp [f_led_2, b_led_2, e1, e2, e3, f1, f2, g1]
theorem llm_step {cf : CF} {M S : Nat} {mem : List Ob} {rows : List SR} {r : SR} {F : List Tr} {s7 s8 s9 s10 : Slot} (hM : M ≤ 3) (hS : S ≤ 4) (nd : (rows.map keyS).Nodup) (h : r ∈ rows) (hr : SROk M S r) (hl : F.length < 1000) :
    exSs gc cf 64 l_law_led_machine_0 ⟨[.val (ownS M S rows), .val (.int M), .val (.int S), .own (.lst F), .val (.int (mB M S : Nat)), .val (.int r.a), .val (.int r.b), s7, s8, s9, s10], mem⟩ =
      .ok .next ⟨[.val (ownS M S rows), .val (.int M), .val (.int S), .own (.lst (F ++ [trRow ⟨M + r.a, r.b, figL M S r, r.s⟩, trRow ⟨r.b, M + r.a, figL M S r, r.s⟩])), .val (.int (mB M S : Nat)), .val (.int r.a), .val (.int r.b), .val (.int r.w), .val (.str (sd r.s)), .val (.int r.g), .val (.int (figL M S r : Nat))], mem⟩ := by
  have hw := hr.w
  have ir : idxT (.dt (rows.map keyS) (rows.map valS)) (.tup [.int r.a, .int r.b]) = some (.tup [.int r.w, .str (sd r.s), .int r.g]) := idx_row nd h
  have o2 := own_r M S rows
  have po : (ownS M S rows).pure = true := rfl
  have lo : ∀ s : Sta, s.deref (ownS M S rows) = ownS M S rows := fun s => rfl
  have ob : ∀ (y : Tr) (s2 : Sta), kIdx3 y s2 (ownS M S rows) = Rs.of (idxT (ownS M S rows) (s2.deref y)) s2 := fun y s2 => rfl
  have ob2 : ∀ (ks : List (List Key)) (vs : List Tr) (y : Tr) (s2 : Sta), kIdx3 y s2 (.dt ks vs) = Rs.of (idxT (.dt ks vs) (s2.deref y)) s2 := fun ks vs y s2 => rfl
  have mu : opB .mul (.int (r.w : Int)) (.int ((mB M S : Nat) : Int)) = some (.int ((r.w : Int) * ((mB M S : Nat) : Int))) := opB_mul (.of64 (by omega) (by omega)) (.of64 (by omega) (by unfold mB; omega))
  have fi := fig_int (M := M) (S := S) r
  have l1 : F.length + 2 ≤ 16777216 := by omega
  unfold trRow
  rw [show ((M + r.a : Nat) : Int) = (M : Int) + (r.a : Int) by omega]
  generalize sd r.s = D at *
  generalize rows.map keyS = KK at *
  generalize rows.map valS = VV at *
  generalize ownS M S rows = O at *
  generalize ((figL M S r : Nat) : Int) = fg at *
  generalize ((mB M S : Nat) : Int) = mb at *
  generalize (r.a : Int) = ra at *
  generalize (r.b : Int) = rb at *
  generalize (r.w : Int) = rw' at *
  generalize (r.g : Int) = rg at *
  generalize (M : Int) = iM at *
  generalize (S : Int) = iS at *
  generalize rw' * mb = pm at *
  subst fi
  simp [l_law_led_machine_0, ir, o2, po, lo, ob, ob2, mu, l1, asg, asgs, d_own, -kIdx3]
theorem llm_loop {cf : CF} {M S : Nat} {mem : List Ob} {rows : List SR} (hM : M ≤ 3) (hS : S ≤ 4) (nd : (rows.map keyS).Nodup) : ∀ (rest : List SR) (F : List Tr) (s5 s6 s7 s8 s9 s10 : Slot), (∀ r ∈ rest, r ∈ rows ∧ SROk M S r) → F.length + 2 * rest.length < 1000 →
    ∃ t5 t6 t7 t8 t9 t10, forGo (.tp [.nm 5, .nm 6]) (exSs gc cf 64 l_law_led_machine_0) (rest.map trK) ⟨[.val (ownS M S rows), .val (.int M), .val (.int S), .own (.lst F), .val (.int (mB M S : Nat)), s5, s6, s7, s8, s9, s10], mem⟩ =
      .ok .next ⟨[.val (ownS M S rows), .val (.int M), .val (.int S), .own (.lst (F ++ (ledL M S rest).map trRow)), .val (.int (mB M S : Nat)), t5, t6, t7, t8, t9, t10], mem⟩
  | [], F, s5, s6, s7, s8, s9, s10, _, _ => ⟨s5, s6, s7, s8, s9, s10, by simp [forGo, ledL]⟩
  | r :: rest, F, s5, s6, s7, s8, s9, s10, h, hl => by
    rw [List.length_cons] at hl
    obtain ⟨h1, h2⟩ := h r (by simp)
    have st := llm_step (cf := cf) (mem := mem) (s7 := s7) (s8 := s8) (s9 := s9) (s10 := s10) hM hS nd h1 h2 (F := F) (by omega)
    obtain ⟨t5, t6, t7, t8, t9, t10, hy⟩ := llm_loop (cf := cf) (mem := mem) hM hS nd rest (F ++ [trRow ⟨M + r.a, r.b, figL M S r, r.s⟩, trRow ⟨r.b, M + r.a, figL M S r, r.s⟩]) (.val (.int r.a)) (.val (.int r.b)) (.val (.int r.w)) (.val (.str (sd r.s))) (.val (.int r.g)) (.val (.int (figL M S r : Nat))) (fun x hx => h x (by simp [hx])) (by simp; omega)
    refine ⟨t5, t6, t7, t8, t9, t10, ?_⟩
    have ha : asg (.tp [.nm 5, .nm 6]) (trK r) [.val (ownS M S rows), .val (.int M), .val (.int S), .own (.lst F), .val (.int (mB M S : Nat)), s5, s6, s7, s8, s9, s10] = some [.val (ownS M S rows), .val (.int M), .val (.int S), .own (.lst F), .val (.int (mB M S : Nat)), .val (.int r.a), .val (.int r.b), s7, s8, s9, s10] := by simp [trK, asg, asgs]
    rw [List.map_cons, forGo_cons ha st, hy]
    simp [ledL]
theorem law_led {d M S : Nat} {mem : List Ob} {rows : List SR} (hd : 1 ≤ d) (h : SOk M S rows) : callF gc 64 fs d n_law_led_machine [ownS M S rows] mem = some (trO (mB M S) (ledR M S (srt rows)), mem) := by
  obtain ⟨d, rfl⟩ : ∃ d', d = d' + 1 := ⟨d - 1, by omega⟩
  have h' := h.perm (srt_perm rows)
  have hl := h'.len
  obtain ⟨t5, t6, t7, t8, t9, t10, e1⟩ := llm_loop (cf := callF gc 64 fs d) (mem := mem) h.hi h.s4 h.nd (srt rows) [] .none .none .none .none .none .none (fun r hr => ⟨(srt_perm rows).mem_iff.mp hr, h'.ok r hr⟩) (by simp; omega)
  rw [List.nil_append] at e1
  have e5 : biT .sorted [.dt (rows.map keyS) (rows.map valS)] = some (.lst ((srt rows).map trK)) := by
    show sortT ((rows.map keyS).map keyTup) = _
    rw [keys_tr, sort_rows]
  have o0 := own_m M S rows
  have o1 := own_s M S rows
  have o2 := own_r M S rows
  have po : (ownS M S rows).pure = true := rfl
  have lo : ∀ s : Sta, s.deref (ownS M S rows) = ownS M S rows := fun s => rfl
  have ob : ∀ (y : Tr) (s2 : Sta), kIdx3 y s2 (ownS M S rows) = Rs.of (idxT (ownS M S rows) (s2.deref y)) s2 := fun y s2 => rfl
  have it : ∀ l : List Tr, items 0 [.lst l] = some l := fun l => rfl
  have sd1 : sd true = "right" := rfl
  have cat : opB .add (.lst ((ledL M S (srt rows)).map trRow)) (.lst [.tup [.int ((M : Int) + (S : Int)), .int 0, .int 0, .str "right"], .tup [.int 0, .int ((M : Int) + (S : Int)), .int 0, .str "right"]]) = some (.lst ((ledR M S (srt rows)).map trRow)) := by
    unfold ledR
    rw [List.map_append, List.map_cons, List.map_cons, List.map_nil]
    have l0 := ledL_len M S (srt rows)
    rw [opB_addL (by rw [List.length_map, l0, Ev.sizeLine_eq]; simp; omega)]
    simp [trRow, sd1]
  have a5 : ∀ x y : Tr, dspT [.str "m", x, .str "rows", y] = some ([.inr "m", .inr "rows"], [x, y]) := fun x y => rfl
  have a6 : ([.inr "m", .inr "rows"] : List Key).Nodup ∧ ([.inr "m", .inr "rows"] : List Key).length ≤ 15 := by decide +kernel
  simp only [List.length_cons, List.length_nil] at a6
  have mbe : ((mB M S : Nat) : Int) = (M : Int) + (S : Int) + 1 := by unfold mB; omega
  unfold trO
  rw [mbe] at e1 ⊢
  rw [callS (fn := f_law_led_machine) rfl rfl rfl]
  generalize (ledR M S (srt rows)).map trRow = RR at *
  generalize (ledL M S (srt rows)).map trRow = LL at *
  generalize (srt rows).map trK = KL at *
  generalize rows.map keyS = KK at *
  generalize rows.map valS = VV at *
  generalize ownS M S rows = O at *
  simp [f_law_led_machine, b_law_led_machine, e1, e5, o0, o1, o2, po, lo, ob, it, cat, a5, a6, manyGo, ownOb, d_own, -kIdx3]
/-! pairs -/
end G
/-! The law of the led machine, at every script. -/
namespace G
open Ev PySem L2 TL
theorem Pot.app {m l : List Ob} {n k : Nat} (h : Pot m n k) : Pot (m ++ l) n k := by
  obtain ⟨o, s, c, h1, h2, h3, h4, h5⟩ := h.ex
  refine ⟨o, s, c, ?_, h2, h3, h4, h5⟩
  obtain ⟨hn, e⟩ := List.getElem?_eq_some_iff.mp h1
  rw [List.getElem?_append_left hn]
  exact h1
theorem any_strip {d n k : Nat} {m : List Ob} (h : Pot m n k) (hk : k < 800000) (hd : 4 ≤ d) : ∃ (M S : Nat) (rows : List SR) (m' : List Ob), SOk M S rows ∧ callF gc 64 fs d n_law_any_strip_2 [.ob n] m = some (ownS M S rows, m') ∧ Pot m' n (k + 60) := by
  obtain ⟨d, rfl⟩ : ∃ d', d = d' + 1 := ⟨d - 1, by omega⟩
  obtain ⟨j, m1, hj, e1, P1⟩ := take_n (u := 3) (d := d) h (by omega) (by omega) (by omega) (by omega)
  have e1' : callF gc 64 fs d n_law_take [.ob n, .int 3] m = some (.int (j : Int), m1) := e1
  by_cases hz : j = 0
  · subst hz
    obtain ⟨M, S, rows, m2, h1, _, h2, P2⟩ := told_strip (d := d) P1 (by omega) (by omega)
    have e1'' : callF gc 64 fs d n_law_take [.ob n, .int 3] m = some (.int 0, m1) := e1
    have po : (ownS M S rows).pure = true := rfl
    refine ⟨M, S, rows, m2, h1, ?_, P2.mono (by omega)⟩
    rw [callS (fn := f_law_any_strip_2) rfl rfl rfl]
    generalize ownS M S rows = O at *
    simp [f_law_any_strip_2, b_law_any_strip_2, e1'', h2, po]
  · obtain ⟨M, S, rows, m2, h1, _, h2, P2⟩ := drawn_strip (d := d) P1 (by omega) (by omega)
    have po : (ownS M S rows).pure = true := rfl
    refine ⟨M, S, rows, m2, h1, ?_, P2.mono (by omega)⟩
    rw [callS (fn := f_law_any_strip_2) rfl rfl rfl]
    generalize ownS M S rows = O at *
    simp [f_law_any_strip_2, b_law_any_strip_2, e1', h2, hz, po]
theorem comp_mem {f : Tr → List Ob → Option (Option Tr × List Ob)} {P : Tr → Prop} (h : ∀ x m, P x → ∃ m', f x m = some (some (.bl true), m')) : ∀ (xs acc : List Tr) (m : List Ob), (∀ x ∈ xs, P x) → acc.length + xs.length ≤ 16777216 → ∃ m', compGo f xs m acc = some (acc ++ List.replicate xs.length (.bl true), m')
  | [], acc, m, _, _ => ⟨m, by simp [compGo]⟩
  | x :: xs, acc, m, hp, hl => by
    rw [List.length_cons] at hl
    obtain ⟨m1, e1⟩ := h x m (hp x (by simp))
    obtain ⟨m2, e2⟩ := comp_mem h xs (acc ++ [.bl true]) m1 (fun y hy => hp y (by simp [hy])) (by simp; omega)
    refine ⟨m2, ?_⟩
    simp only [compGo, e1]
    rw [if_pos (by rw [Ev.sizeLine_eq]; omega), e2, List.length_cons, List.replicate_succ]
    simp
theorem rg0 (c : Nat) : rgT 0 (c : Int) = ((List.range c).map fun (i : Nat) => (i : Int)).map .int := by
  unfold rgT
  simp
end G
/-! Rows in a drawn sequence: sorted they are the same. -/
namespace G
open Ev PySem L2 TL
noncomputable def leR (r t : SR) : Bool := decide ((r.a : Int) < t.a ∨ ((r.a : Int) = t.a ∧ (r.b : Int) ≤ t.b))
theorem le_trK (r t : SR) : PySem.W.dataLe false dat (trK r) (trK t) = leR r t := congrFun (congrFun (PySem.W.dataLe_ii (β := SR) (fun x => (x.a : Int)) (fun x => (x.b : Int))) r) t
theorem srt_le (rows : List SR) : srt rows = rows.mergeSort leR := by
  unfold srt
  exact congrArg (fun f => rows.mergeSort f) (funext fun r => funext fun t => le_trK r t)
theorem srt_pw (rows : List SR) : (srt rows).Pairwise fun a b => leR a b = true := by
  rw [srt_le]
  refine List.pairwise_mergeSort (fun a b c h1 h2 => ?_) (fun a b => ?_) rows
  · simp only [leR, decide_eq_true_eq] at *
    omega
  · simp only [leR, Bool.or_eq_true, decide_eq_true_eq]
    omega
theorem key_uniq : ∀ {rows : List SR}, (rows.map keyS).Nodup → ∀ r ∈ rows, ∀ t ∈ rows, keyS r = keyS t → r = t
  | [], _, r, h, _, _, _ => nomatch h
  | x :: rows, nd, r, hr, t, ht, e => by
    rw [List.map_cons, List.nodup_cons] at nd
    rcases List.mem_cons.mp hr with h1 | h1
    · rcases List.mem_cons.mp ht with h2 | h2
      · rw [h1, h2]
      · exact absurd (by rw [← h1, e]; exact List.mem_map_of_mem h2) nd.1
    · rcases List.mem_cons.mp ht with h2 | h2
      · exact absurd (by rw [← h2, ← e]; exact List.mem_map_of_mem h1) nd.1
      · exact key_uniq nd.2 r h1 t h2 e
theorem srt_same {rs rows : List SR} (p : rs.Perm rows) (nd : (rows.map keyS).Nodup) : srt rs = srt rows := by
  refine List.Perm.eq_of_pairwise (fun a b ha hb h1 h2 => ?_) (srt_pw rs) (srt_pw rows) ((srt_perm rs).trans (p.trans (srt_perm rows).symm))
  refine key_uniq nd a (p.subset ((srt_perm rs).subset ha)) b ((srt_perm rows).subset hb) ?_
  simp only [leR, decide_eq_true_eq] at h1 h2
  have e1 : (a.a : Int) = b.a := by omega
  have e2 : (a.b : Int) = b.b := by omega
  simp only [keyS, e1, e2]
theorem perm_of_map {α β : Type} {f : α → β} : ∀ {m n : List β}, m.Perm n → ∀ l : List α, n = l.map f → ∃ l' : List α, l'.Perm l ∧ m = l'.map f := by
  intro m n h
  induction h with
  | nil => intro l e; exact ⟨l, .refl l, e⟩
  | @cons x m n h ih =>
    intro l e
    cases l with
    | nil => cases e
    | cons a l =>
      rw [List.map_cons] at e
      injection e with e1 e2
      obtain ⟨l', p, q⟩ := ih l e2
      exact ⟨a :: l', p.cons a, by rw [List.map_cons, e1, q]⟩
  | swap x y l =>
    intro l' e
    cases l' with
    | nil => cases e
    | cons a l' =>
      cases l' with
      | nil => cases e
      | cons b l' =>
        rw [List.map_cons, List.map_cons] at e
        injection e with e1 e2
        injection e2 with e2 e3
        exact ⟨b :: a :: l', .swap a b l', by rw [List.map_cons, List.map_cons, e1, e2, e3]⟩
  | trans h1 h2 ih1 ih2 =>
    intro l e
    obtain ⟨l1, p1, q1⟩ := ih2 l e
    obtain ⟨l2, p2, q2⟩ := ih1 l1 q1
    exact ⟨l2, p2.trans p1, q2⟩
end G
/-! A machine's properties, its text told by the law. -/
namespace G
open Ev PySem L2 TL
section
variable {d m : Nat} {mem : List Ob} {rows : List Row}
theorem fM_text (s1 : Sta) : kFld2 "own_text" s1 (trM m rows) = .ok (.str (macText m rows)) s1 := rfl
theorem fM_fig (s1 : Sta) : kFld2 "own_figures" s1 (trM m rows) = .ok (.int m) s1 := rfl
theorem fM_rows (s1 : Sta) : kFld2 "own_rows" s1 (trM m rows) = .ok (.lst (rows.map trRow)) s1 := rfl
theorem pM : (trM m rows).pure = true := rfl
theorem dM (s : Sta) : s.deref (trM m rows) = trM m rows := rfl
theorem p_text (hd : 1 ≤ d) : callF gc 64 fs d n_Machine_text [trM m rows] mem = some (.str (macText m rows), mem) := by
  obtain ⟨d, rfl⟩ : ∃ d', d = d' + 1 := ⟨d - 1, by omega⟩
  have f0 := fM_text (m := m) (rows := rows)
  have f1 := pM (m := m) (rows := rows)
  have f2 := dM (m := m) (rows := rows)
  rw [callS (fn := f_Machine_text) rfl rfl rfl]
  generalize trM m rows = O at *
  simp [f_Machine_text, b_Machine_text, f0, f1, f2, -kFld2]
theorem p_fig (hd : 1 ≤ d) : callF gc 64 fs d n_Machine_figures [trM m rows] mem = some (.int m, mem) := by
  obtain ⟨d, rfl⟩ : ∃ d', d = d' + 1 := ⟨d - 1, by omega⟩
  have f0 := fM_fig (m := m) (rows := rows)
  have f1 := pM (m := m) (rows := rows)
  have f2 := dM (m := m) (rows := rows)
  rw [callS (fn := f_Machine_figures) rfl rfl rfl]
  generalize trM m rows = O at *
  simp [f_Machine_figures, b_Machine_figures, f0, f1, f2, -kFld2]
theorem p_rows (hd : 1 ≤ d) : callF gc 64 fs d n_Machine_rows [trM m rows] mem = some (.tup (rows.map trRow), mem) := by
  obtain ⟨d, rfl⟩ : ∃ d', d = d' + 1 := ⟨d - 1, by omega⟩
  have f0 := fM_rows (m := m) (rows := rows)
  have f1 := pM (m := m) (rows := rows)
  have f2 := dM (m := m) (rows := rows)
  have g0 : biT .tupOf [.lst (rows.map trRow)] = some (.tup (rows.map trRow)) := rfl
  rw [callS (fn := f_Machine_rows) rfl rfl rfl]
  generalize trM m rows = O at *
  generalize rows.map trRow = L at *
  simp [f_Machine_rows, b_Machine_rows, f0, f1, f2, g0, -kFld2]
theorem eq_self {z : Str} : opC2 .eq (.str z) (.str z) = some true := by
  have e : eqT (.str z) (.str z) = some true := by
    unfold eqT
    simp [Tr.data]
  simp [opC2, opC, Tr.pure, e]
theorem m_eq (hd : 1 ≤ d) : callF gc 64 fs d n_Machine_eq [trM m rows, trM m rows] mem = some (.bl true, mem) := by
  obtain ⟨d, rfl⟩ : ∃ d', d = d' + 1 := ⟨d - 1, by omega⟩
  have f0 := fM_text (m := m) (rows := rows)
  have f1 := pM (m := m) (rows := rows)
  have f2 := dM (m := m) (rows := rows)
  have f3 : isCT "Machine" (trM m rows) = some (.bl true) := rfl
  have f4 := eq_self (z := macText m rows)
  rw [callS (fn := f_Machine_eq) rfl rfl rfl]
  generalize trM m rows = O at *
  generalize macText m rows = T at *
  simp [f_Machine_eq, b_Machine_eq, f0, f1, f2, f3, f4, -kFld2]
end
end G
/-! Reprs of a machine's text and of its rows. -/
namespace G
open Ev PySem L2 TL
theorem row_high {s : Nat} (h : 128 ≤ s) (r : Row) : s ∉ tl (rowText r) := by
  unfold rowText
  rw [tl_joinT, tl_sp]
  refine mem_joinL (by simp; omega) fun p hp => ?_
  obtain ⟨z, hz, rfl⟩ := List.mem_map.mp hp
  simp only [rowWords, List.mem_cons, List.not_mem_nil, or_false] at hz
  have c : ∀ l : List Nat, (l.all fun c => decide (c < 128)) = true → s ∉ l := fun l hl hm => by
    have := of_decide_eq_true (List.all_eq_true.mp hl s hm)
    omega
  rcases hz with rfl | rfl | rfl | rfl | rfl
  · exact c _ (by decide +kernel)
  · rw [tl_numS]; exact numL_free (.inr (by omega))
  · rw [tl_numS]; exact numL_free (.inr (by omega))
  · rw [tl_numS]; exact numL_free (.inr (by omega))
  · cases r.s
    · exact c _ (by decide +kernel)
    · exact c _ (by decide +kernel)
theorem text_high {s m : Nat} (h : 128 ≤ s) (rows : List Row) : s ∉ tl (macText m rows) := by
  unfold macText
  rw [tl_joinT, tl_nl]
  refine mem_joinL (by simp; omega) fun p hp => ?_
  obtain ⟨z, hz, rfl⟩ := List.mem_map.mp hp
  have c : ∀ l : List Nat, (l.all fun c => decide (c < 128)) = true → s ∉ l := fun l hl hm => by
    have := of_decide_eq_true (List.all_eq_true.mp hl s hm)
    omega
  rcases List.mem_cons.mp hz with rfl | hz
  · rw [first_join, tl_joinT, tl_sp]
    refine mem_joinL (by simp; omega) fun p hp => ?_
    obtain ⟨z, hz, rfl⟩ := List.mem_map.mp hp
    simp only [List.mem_cons, List.not_mem_nil, or_false] at hz
    rcases hz with rfl | rfl
    · exact c _ (by decide +kernel)
    · rw [tl_numS]; exact numL_free (.inr (by omega))
  · obtain ⟨r, _, rfl⟩ := List.mem_map.mp hz
    exact row_high h r
theorem repr_text {m : Nat} {rows : List Row} (h : MOk m rows) : ∃ z, reprT (.str (macText m rows)) = some (.str z) := by
  have hl := len_text (m := m) (rows := rows) (by have := h.hi; omega) fun r hr => (h.ok r hr).small h.hi
  have hn := h.len
  have hr := PySem.StrLaws.reprText_len (macText m rows) fun c hc => by
    by_cases h9 : c < 128
    · exact Nat.lt_of_lt_of_le h9 (by decide)
    · exact absurd hc (text_high (s := c) (by omega) rows)
  exact repr_of (n := 0) (k := (reprText (macText m rows)).length) rfl (by omega) (by omega)
theorem sh_sd (n : Nat) (b : Bool) : ∃ k, sh n (.str (sd b)) = some k ∧ k ≤ 7 := by
  cases b
  · exact ⟨_, rfl, by decide +kernel⟩
  · exact ⟨_, rfl, by decide +kernel⟩
theorem sh_row {n : Nat} {r : Row} (h : r.small) : ∃ k, sh (n + 1) (trRow r) = some k ∧ k ≤ 6000 := by
  obtain ⟨k, e, hk⟩ := sh_sd n r.s
  have key : ∀ a : Nat, a < 100 → sh n (.int (a : Int)) = some 1921 := fun a ha => by
    have : (a : Int).natAbs.log2 < 1920 := Nat.lt_of_lt_of_le (log2_le_of (k := 10) (by omega) (by rw [Int.natAbs_natCast]; omega)) (by omega)
    cases n <;> rw [sh, if_pos this]
  refine ⟨(1921 + (1921 + (1921 + (k + 0 + 2) + 2) + 2) + 2) + 3, ?_, by omega⟩
  have q : shs n [.int r.a, .int r.b, .int r.f, .str (sd r.s)] = some (1921 + (1921 + (1921 + (k + 0 + 2) + 2) + 2) + 2) := by simp only [shs, key r.a h.1, key r.b h.2.1, key r.f h.2.2, e]
  unfold trRow
  simp only [sh, q]
theorem shs_rows {n : Nat} : ∀ {rows : List Row}, (∀ r ∈ rows, r.small) → ∃ k, shs (n + 1) (rows.map trRow) = some k ∧ k ≤ 6002 * rows.length
  | [], _ => ⟨0, rfl, Nat.zero_le _⟩
  | r :: rows, h => by
    obtain ⟨k1, e1, h1⟩ := sh_row (n := n) (h r (by simp))
    obtain ⟨k2, e2, h2⟩ := shs_rows (n := n) (rows := rows) fun x hx => h x (by simp [hx])
    refine ⟨k1 + k2 + 2, by rw [List.map_cons]; simp only [shs, e1, e2], by rw [List.length_cons]; omega⟩
theorem repr_rows {m : Nat} {rows : List Row} (h : MOk m rows) : ∃ z, reprT (.tup [.int m, .tup (rows.map trRow)]) = some (.str z) := by
  obtain ⟨k, e, hk⟩ := shs_rows (n := 1) (rows := rows) fun r hr => (h.ok r hr).small h.hi
  have hn := h.len
  have h9 := h.hi
  have this : (m : Int).natAbs.log2 < 1920 := Nat.lt_of_lt_of_le (log2_le_of (k := 10) (by omega) (by rw [Int.natAbs_natCast]; omega)) (by omega)
  refine repr_of (n := 4) (k := (1921 + ((k + 3) + 0 + 2) + 2) + 3) ?_ (by omega) (by omega)
  simp only [sh, shs, if_pos this, e]
end G
/-! The law of the led machine's text, at every script. -/
namespace G
open Ev PySem L2 TL
theorem law_base {d M S : Nat} {mem : List Ob} {rows : List SR} (hd : 1 ≤ d) : callF gc 64 fs d n_law_base [ownS M S rows] mem = some (.int (mB M S : Nat), mem) := by
  obtain ⟨d, rfl⟩ : ∃ d', d = d' + 1 := ⟨d - 1, by omega⟩
  have q1 : (ownS M S rows).pure = true := rfl
  have q2 : ∀ s : Sta, s.deref (ownS M S rows) = ownS M S rows := fun s => rfl
  have ob : ∀ (y : Tr) (s2 : Sta), kIdx3 y s2 (ownS M S rows) = Rs.of (idxT (ownS M S rows) (s2.deref y)) s2 := fun y s2 => rfl
  have i0 := own_m M S rows
  have i1 := own_s M S rows
  have a1 : opB .add (.int (M : Int)) (.int (S : Int)) = some (.int ((M : Int) + S)) := rfl
  have a2 : opB .add (.int ((M : Int) + S)) (.int 1) = some (.int ((mB M S : Nat) : Int)) := by
    have : ((mB M S : Nat) : Int) = (M : Int) + S + 1 := by unfold mB; omega
    rw [this]
    rfl
  rw [callS (fn := f_law_base) rfl rfl rfl]
  generalize ownS M S rows = O at *
  generalize ((mB M S : Nat) : Int) = B at *
  generalize (M : Int) + (S : Int) = MS at *
  generalize (M : Int) = M' at *
  generalize (S : Int) = S' at *
  simp [f_law_base, b_law_base, q1, q2, ob, i0, i1, a1, a2, -kIdx3]
theorem cut_two (a b : Tr) (l : List Tr) : slT (.lst (a :: b :: l)) none (some 2) = some (.lst [a, b]) ∧ slT (.lst (a :: b :: l)) (some 2) none = some (.lst l) := by
  have e1 : HT.sIx (a :: b :: l).length 0 none = 0 := rfl
  have e2 : HT.sIx (a :: b :: l).length (a :: b :: l).length none = (a :: b :: l).length := rfl
  have e3 : ∀ k, HT.sIx (a :: b :: l).length k (some 2) = 2 := fun k => by
    simp [HT.sIx]
  constructor
  · simp only [slT, cutT, e1, e3]
    rfl
  · simp only [slT, cutT, e2, e3]
    simp
theorem strs_pure (l : List Str) : (l.map Tr.str).all Tr.pure = true := by
  rw [List.all_eq_true]
  intro t ht
  obtain ⟨z, _, rfl⟩ := List.mem_map.mp ht
  rfl
theorem right_spec {d n k : Nat} {m : List Ob} (hd : 14 ≤ d) (P : Pot m n k) (hk : k < 10000) : ∃ m', callF gc 64 fs d n_law_right_25 [.ob n] m = some (.bl true, m') := by
  obtain ⟨d, rfl⟩ : ∃ d', d = d' + 1 := ⟨d - 1, by omega⟩
  obtain ⟨M, S, rows, m1, hs, e1, P1⟩ := any_strip (d := d) P (by omega) (by omega)
  have hM := hs.lo
  have hM3 := hs.hi
  have hS := hs.s4
  have p := srt_perm rows
  have hs1 := hs.perm p
  have e2 := law_led (d := d) (mem := m1) (by omega) hs
  have e3 := strip_text (d := d) (mem := m1) (by omega) hs
  have hlen : (srt rows).length = rows.length := p.length_eq
  have hrl := hs.len
  have tl := len_strip (M := M) (S := S) (rows := srt rows) (by omega) (by omega) fun r hr => (hs1.ok r hr).small hM3 hS
  have e4 : mtT .split (.str (strText M S (srt rows))) [.str "\n"] = some (.lst (.str (marksL M) :: .str (statesL S) :: ((srt rows).map (srText S)).map .str)) := by
    rw [split_nl (by omega), split_strip]
    rfl
  obtain ⟨c1, c2⟩ := cut_two (.str (marksL M)) (.str (statesL S)) (((srt rows).map (srText S)).map .str)
  have e5 : biT .len [.lst (.str (marksL M) :: .str (statesL S) :: ((srt rows).map (srText S)).map .str)] = some (.int (((srt rows).length : Nat) + 2 : Int)) := by
    simp only [biT, List.length_cons, List.length_map]
    congr 2
  have e6 : opB .sub (.int (((srt rows).length : Nat) + 2 : Int)) (.int 2) = some (.int ((srt rows).length : Nat)) := by
    have : (((srt rows).length : Nat) + 2 : Int) - 2 = ((srt rows).length : Nat) := by omega
    show some (Tr.int ((((srt rows).length : Nat) + 2 : Int) - 2)) = _
    rw [this]
  obtain ⟨found, rest, m2, e7, pf, fl, P2⟩ := some_spec (d := d) (many := (srt rows).length) (pool := ((srt rows).map (srText S)).map Tr.str) P1 (by omega) (by simp) (by simp; omega) (strs_pure _) (by omega)
  have hrest : rest = [] := by
    have := pf.length_eq
    simp only [List.length_append, List.length_map, fl] at this
    exact List.length_eq_zero_iff.mp (by omega)
  rw [hrest, List.append_nil] at pf
  obtain ⟨F, pF, rfl⟩ := perm_of_map pf _ rfl
  obtain ⟨rs, prs, rfl⟩ := perm_of_map pF _ rfl
  have prs2 : rs.Perm rows := prs.trans p
  have hsr := hs.perm prs2
  have ss : srt rs = srt rows := srt_same prs2 hs.nd
  have e8 : opB .add (.lst [.str (marksL M), .str (statesL S)]) (.lst ((rs.map (srText S)).map .str)) = some (.lst ((strLines M S rs).map .str)) := by
    have hl : rs.length ≤ 15 := hsr.len
    show (if _ + _ ≤ sizeLine then _ else _) = _
    rw [if_pos (by rw [Ev.sizeLine_eq]; simp; omega)]
    rfl
  have e9 := join_strip (M := M) (S := S) (rows := rs) (by omega) (by omega) (fun r hr => (hsr.ok r hr).small hM3 hS) (by have := prs2.length_eq; omega)
  have e10 := strip (d := d) (base := m2) (by omega) hsr
  generalize LM (m2 ++ [.gone]) (.int M) (.int S) (rs.map trR5) = m3 at *
  have e11 := led (d := d) (mem := m3) (by omega) hsr
  rw [ss] at e11
  have hmo := led_ok hs1
  have hll : (ledR M S (srt rows)).length = 2 * rows.length + 2 := by
    unfold ledR
    rw [List.length_append, ledL_len, hlen]
    rfl
  generalize hLR : ledR M S (srt rows) = LR at *
  have hLl : LR.length = 2 * rows.length + 2 := hll
  generalize hm4 : m3 ++ [.gone] = m4 at *
  have e12 := p_text (d := d) (m := mB M S) (mem := m4) (rows := LR) (by omega)
  have e13 := machine_text (d := d) (mem := m4) (by omega) hmo
  have e14 := machine (d := d) (mem := m4) (by omega) hmo
  generalize m4 ++ [.gone] = m5 at *
  have e15 := m_eq (d := d) (m := mB M S) (mem := m5) (rows := LR) (by omega)
  have e16 := p_fig (d := d) (m := mB M S) (mem := m5) (rows := LR) (by omega)
  have e17 := p_rows (d := d) (m := mB M S) (mem := m5) (rows := LR) (by omega)
  have e18 := law_base (d := d) (M := M) (S := S) (mem := m5) (rows := rows) (by omega)
  have e19 := led (d := d) (mem := m5) (by omega) hsr
  rw [ss, hLR] at e19
  have e20 := m_eq (d := d) (m := mB M S) (mem := m5 ++ [.gone]) (rows := LR) (by omega)
  generalize m5 ++ [.gone] = m6 at *
  obtain ⟨z, ez⟩ := repr_text hmo
  obtain ⟨y, ey⟩ := repr_rows hmo
  have rz : biT .repr [.str (macText (mB M S) LR)] = some (.str z) := ez
  have ry : biT .repr [.tup [.int (mB M S : Nat), .tup (LR.map trRow)]] = some (.str y) := ey
  have i1 := trO_rows (mB M S) LR
  have i2 := own_r M S rows
  have l1 : biT .len [.lst (LR.map trRow)] = some (.int (2 * (rows.length : Int) + 2)) := by
    simp only [biT, List.length_map, hLl]
    congr 2
  have l2 : biT .len [.dt (rows.map keyS) (rows.map valS)] = some (.int (rows.length : Int)) := by
    simp only [biT, List.length_map]
  have tu : biT .tupOf [.lst (LR.map trRow)] = some (.tup (LR.map trRow)) := rfl
  have a1 : opB .mul (.int 2) (.int (rows.length : Int)) = some (.int (2 * (rows.length : Int))) := opB_mul (.of64 (by omega) (by omega)) (.of64 (by omega) (by omega))
  have a2 : opB .add (.int (2 * (rows.length : Int))) (.int 2) = some (.int (2 * (rows.length : Int) + 2)) := rfl
  have a3 : opC2 .eq (.int (2 * (rows.length : Int) + 2)) (.int (2 * (rows.length : Int) + 2)) = some true := by
    simp [opC2, opC, Tr.pure, eqT_int]
  have q1 : (ownS M S rows).pure = true := rfl
  have q2 : ∀ s : Sta, s.deref (ownS M S rows) = ownS M S rows := fun s => rfl
  have ob : ∀ (y : Tr) (s2 : Sta), kIdx3 y s2 (ownS M S rows) = Rs.of (idxT (ownS M S rows) (s2.deref y)) s2 := fun y s2 => rfl
  have ob2 : ∀ (y : Tr) (s2 : Sta), kIdx3 y s2 (trO (mB M S) LR) = Rs.of (idxT (trO (mB M S) LR) (s2.deref y)) s2 := fun y s2 => rfl
  have w1 : (trO (mB M S) LR).pure = true := rfl
  have w2 : ∀ s : Sta, s.deref (trO (mB M S) LR) = trO (mB M S) LR := fun s => rfl
  have f1 := pS (M := M) (S := S) (rows := rs)
  have f2 := dS (M := M) (S := S) (rows := rs)
  have g1 := pM (m := mB M S) (rows := LR)
  have g2 := dM (m := mB M S) (rows := LR)
  have k1 : ∀ (f : Nat) (s1 : Sta), kPr (callF gc 64 fs d) "Machine" f (trM (mB M S) LR) s1 = kPr3 s1 (callF gc 64 fs d f [trM (mB M S) LR] s1.mem) := fun f s1 => rfl
  have k2 : ∀ (f : Nat) (s1 : Sta), kEv2 (callF gc 64 fs d) "Machine" f (trM (mB M S) LR) (trM (mB M S) LR) s1 = kEv3 s1 (callF gc 64 fs d f [trM (mB M S) LR, trM (mB M S) LR] s1.mem) := fun f s1 => rfl
  have eq1 := eq_self (z := z)
  have ne1 : opC2 .ne (.str z) (.str z) = some false := by
    have e : eqT (.str z) (.str z) = some true := by rw [eqT_str]; simp
    simp [opC2, opC, Tr.pure, e]
  have ne2 : opC2 .ne (.str y) (.str y) = some false := by
    have e : eqT (.str y) (.str y) = some true := by rw [eqT_str]; simp
    simp [opC2, opC, Tr.pure, e]
  have rk : ∀ z : Str, recvOk .split (.str z) = true := fun z => rfl
  have rj : ∀ z : Str, recvOk .join (.str z) = true := fun z => rfl
  have t1 : opC2 .notN (.bl true) (.bl true) = some false := rfl
  have t2 : opC2 .isN (.bl true) (.bl true) = some true := rfl
  refine ⟨m6, ?_⟩
  rw [callS (fn := f_law_right_25) rfl rfl rfl]
  generalize (.str (marksL M) :: .str (statesL S) :: ((srt rows).map (srText S)).map Tr.str : List Tr) = LN at *
  generalize ([.str (marksL M), .str (statesL S)] : List Tr) = L2' at *
  generalize ((srt rows).map (srText S)).map Tr.str = L3 at *
  generalize (rs.map (srText S)).map Tr.str = L4 at *
  generalize (strLines M S rs).map Tr.str = L5 at *
  generalize strText M S (srt rows) = T1 at *
  generalize strText M S rs = T2 at *
  generalize macText (mB M S) LR = T3 at *
  generalize trM (mB M S) LR = TM at *
  generalize trO (mB M S) LR = TO at *
  generalize LR.map trRow = LT at *
  generalize trS M S rs = O1 at *
  generalize ownS M S rows = O at *
  generalize rows.map keyS = KS at *
  generalize rows.map valS = VL at *
  generalize 2 * (rows.length : Int) + 2 = N2 at *
  generalize 2 * (rows.length : Int) = N1 at *
  generalize (rows.length : Int) = N0 at *
  generalize (((srt rows).length : Nat) : Int) + 2 = N4 at *
  generalize (((srt rows).length : Nat) : Int) = N3 at *
  generalize ((mB M S : Nat) : Int) = B at *
  simp [f_law_right_25, b_law_right_25, e1, e2, e3, e4, e5, e6, e7, c1, c2, e8, e9, e10, e11, e12, e13, e14, e15, e16, e17, e18, e19, e20, rz, ry, i1, i2, l1, l2, tu, a1, a2, a3, q1, q2, ob, ob2, w1, w2, f1, f2, g1, g2, k1, k2, ne1, ne2, t1, t2, rk, rj, isNul, asInt, -kIdx3, -kPr, -kEv2]
end G
/-! The law at every script. -/
namespace G
open Ev PySem L2 TL
theorem law_all (ns : List Int) : ∃ m', callF gc 64 fs 40 n_law_25 [.flst (ns.map .int)] [] = some (.bl true, m') := by
  rw [show (40 : Nat) = 39 + 1 from rfl, callS (fn := f_law_25) rfl rfl rfl]
  obtain ⟨c, hc, hi, e1⟩ := cells (d := 39) (m := []) (ns := ns) (by omega)
  obtain ⟨m', e2⟩ := comp_mem (f := compF (.nm 1) [.val (.flst (ns.map .int)), .none] (kCond gc (callF gc 64 fs 39) .nul) (kElt gc (callF gc 64 fs 39) e_law_25_0)) (P := fun x => ∃ i : Nat, x = .int i ∧ i ≤ 2 ∧ (i < ns.length ∨ (i = 0 ∧ ns = []))) (fun x m hx => by
    obtain ⟨i, rfl, h2, h3⟩ := hx
    obtain ⟨o, s, p1, s0, s1⟩ := pot (d := 39) (e := 0) (m := m) h2 h3 (by omega)
    obtain ⟨m2, p2⟩ := right_spec (d := 39) (by omega) (pot_ok (o := o) (m := m) s0 s1) (by omega)
    refine ⟨m2, ?_⟩
    generalize m ++ [.lst [.int o, .int s, .int 0]] = m1 at p1 p2
    generalize callF gc 64 fs 39 = cf at p1 p2 ⊢
    generalize ns.map Tr.int = L at p1 ⊢
    simp [compF, asg, isNul, e_law_25_0, p1, p2]) (rgT 0 c) [] [] (fun x hx => by
      rw [rg0] at hx
      obtain ⟨j, hj, rfl⟩ := List.mem_map.mp hx
      obtain ⟨i, hi2, rfl⟩ := List.mem_map.mp hj
      have := List.mem_range.mp hi2
      exact ⟨i, rfl, by omega, hi i this⟩) (by rw [rg0]; simp; omega)
  refine ⟨m', ?_⟩
  have hit : items 0 [.lst (rgT 0 c)] = some (rgT 0 c) := rfl
  have hall := allT (rgT 0 c).length
  rw [List.nil_append] at e2
  generalize rgT 0 (c : Int) = R at e1 e2 hit hall
  generalize callF gc 64 fs 39 = cf at e1 e2 ⊢
  generalize ns.map Tr.int = L at e1 e2 ⊢
  generalize List.replicate R.length (Tr.bl true) = BB at e2 hall
  simp [f_law_25, b_law_25, e1, hit, wipeE, Slot.lock, e2, hall, -b_all]
theorem law_holds (ns : List Int) (_ : ns.length ≤ 63) : ∃ m', callF gc 64 fs 40 n_law_25 [.flst (ns.map .int)] [] = some (.bl true, m') := law_all ns
end G
theorem PySem.Challenge.cw_emptywords_k11_whole_strips_led_to_pair_holds : PySem.Challenge.rw_emptywords_k11_whole_strips_led_to_pair.Holds :=
  @Hd.head ⟨G.law_holds⟩

