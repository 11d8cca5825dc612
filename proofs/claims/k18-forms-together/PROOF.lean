import PyProof.Rows.All
import Wide.All
import OpenK.AllK
import Wide.FinOn
import HandS.ForMost
import HandS.TupAny
import HandS.Wide
import HandS.IsInst
import HandS.Conv
import HandS.Style
import HandS.Zip
import HandS.Walk
import PyProof.Rows.RuleB_pow
import PyProof.ReprReads
import PyProof.ReprRoads
import PyProof.CallFns
import HandS.Flow
import KE.GoesMore
import HandS.Star
import HandS.Ends
import PySem.Challenge.RW_emptywords_k18_whole_forms_put_together
set_option Elab.async false
set_option linter.all false
set_option maxRecDepth 100000
set_option maxHeartbeats 4000000
/-! An evaluator of our own for a part of Python: trees for values, slots for names. -/
namespace Ev
open PySem L2

inductive Tr where
  | non | bl (b : Bool) | int (i : Int) | str (s : Str)
  | tup (l : List Tr) | lst (l : List Tr) | flst (l : List Tr)
  | ob (n : Nat) | bor (i : Nat)

inductive Ob where
  | lst (l : List Tr)
inductive Slot where
  | none | val (t : Tr) | own (l : List Tr)
structure Sta where
  env : List Slot
  mem : List Ob

inductive Op where | add | sub | mul | fdiv | mod | pow
inductive Cp where | eq | ne | lt | le | gt | ge | isN | notN | inn | nin
inductive Bi where | len | abs | int | sum | max2 | min2 | listRg | listOf | tupOf | all | any | repr | isInt | isBool | isStr | isTup
inductive Tg where
  | nm (i : Nat) | tp (l : List Tg)
inductive Ex where
  | var (i : Nat) | mv (i : Nat) | gl (k : Nat) | int (i : Int) | str (s : Str) | bl (b : Bool) | non | nul
  | tup (es : List Ex) | lst (es : List Ex) | shd (es : List Ex)
  | bin (o : Op) (a b : Ex) | neg (a : Ex) | cmp (o : Cp) (a b : Ex) | chain (o p : Cp) (a b c : Ex)
  | and_ (a b : Ex) | or_ (a b : Ex) | not_ (a : Ex) | ite (c a b : Ex)
  | idx (a b : Ex) | sl (a lo hi : Ex) | rev (a : Ex)
  | call (f : Nat) (es : List Ex)
  | bi (b : Bi) (es : List Ex)
  | pop (i : Nat)
  | comp (k : Nat) (elt : Ex) (tg : Tg) (its : List Ex) (cond : Ex) (own : List Nat)
  | bad | disp (k : Nat) (bs : List Bool) (es : List Ex) | callK (f : Nat) (es ks : List Ex)
inductive Sm where
  | set (i : Nat) (e : Ex) | own (i : Nat) (es : List Ex) | ownOf (i : Nat) (e : Ex)
  | many (is : List (Nat × Bool)) (es : List Ex)
  | tgt (tg : Tg) (e : Ex)
  | aug (i : Nat) (o : Op) (e : Ex)
  | put (o k v : Ex)
  | app (i : Nat) (e : Ex) | ext (i : Nat) (e : Ex) | ex (e : Ex)
  | ret (e : Ex) | retN
  | ite (c : Ex) (a b : List Sm)
  | forr (k : Nat) (tg : Tg) (its : List Ex) (b : List Sm)
  | whl (c : Ex) (b : List Sm)
  | brk | cont | pass | bad

inductive Rs (α : Type) where
  | ok (a : α) (s : Sta) | no
def Rs.bind {α β : Type} : Rs α → (α → Sta → Rs β) → Rs β
  | .ok a s, f => f a s
  | .no, _ => .no
theorem Rs.bind_ok {α β : Type} (a : α) (s : Sta) (f : α → Sta → Rs β) : (Rs.ok a s).bind f = f a s := rfl
theorem Rs.bind_no {α β : Type} (f : α → Sta → Rs β) : (Rs.no : Rs α).bind f = .no := rfl
theorem Rs.bind_eq {α β : Type} {r : Rs α} {f : α → Sta → Rs β} {b : β} {s' : Sta} (h : r.bind f = .ok b s') : ∃ a s, r = .ok a s ∧ f a s = .ok b s' := by
  cases r with
  | ok a s => exact ⟨a, s, rfl, h⟩
  | no => exact nomatch h
def Rs.of {α : Type} : Option α → Sta → Rs α
  | some a, s => .ok a s
  | none, _ => .no
theorem Rs.of_eq {α : Type} {o : Option α} {s s' : Sta} {a : α} (h : Rs.of o s = .ok a s') : o = some a ∧ s = s' := by
  cases o with
  | some b => injection h with h1 h2; subst h1 h2; exact ⟨rfl, rfl⟩
  | none => exact nomatch h

/-! ### values -/
def Tr.pure : Tr → Bool
  | .bor _ => false
  | _ => true
def Sta.deref (s : Sta) : Tr → Tr
  | .bor i => match s.env[i]? with
    | some (.own l) => .lst l
    | some (.val t) => t
    | _ => .bor i
  | t => t
mutual
def Tr.data : Tr → Option PyData
  | .non => some .none
  | .bl b => some (.bool b)
  | .int i => some (.int i)
  | .str s => some (.str s)
  | .tup l => match datas l with
    | some ds => some (.tuple ds)
    | none => none
  | .lst l => match datas l with
    | some ds => some (.list ds)
    | none => none
  | .flst l => match datas l with
    | some ds => some (.list ds)
    | none => none
  | .ob _ => none
  | .bor _ => none
def datas : List Tr → Option (List PyData)
  | [] => some []
  | t :: l => match t.data, datas l with
    | some d, some ds => some (d :: ds)
    | _, _ => none
end
def eqD (x y : Tr) : Option Bool := match x.data, y.data with
  | some d, some e => if SeqAt.shaped d && SeqAt.shaped e then some (PyData.eqv d e) else none
  | _, _ => none
def eqT (x y : Tr) : Option Bool := match x, y with
  | .str a, .str b => some (decide (a = b))
  | .int a, .int b => some (decide (a = b))
  | x, y => eqD x y
def reprT (x : Tr) : Option Tr := match x.data with
  | some d => if d.showable && decide (d.shown.length ≤ sizeLine) && decide (d.depth ≤ 64) then some (.str d.shown) else none
  | none => none
def flat : Tr → Option V
  | .non => some .non
  | .bl b => some (.bl b)
  | .int i => some (.int i)
  | .str s => some (.str s)
  | _ => none
def flats : List Tr → Option (List V)
  | [] => some []
  | t :: l => match flat t, flats l with
    | some v, some vs => some (v :: vs)
    | _, _ => none
def inT (x y : Tr) : Option Bool := match y with
  | .tup l | .lst l | .flst l => match flat x, flats l with
    | some v, some vs => some (inV v vs)
    | _, _ => none
  | .str z => match x with
    | .str y => some (!(Builtin.Str.occurrences z y 0 z.length 1).isEmpty)
    | _ => none
  | _ => none
def opB : Op → Tr → Tr → Option Tr
  | .add, .int i, .int j => some (.int (i + j))
  | .add, .str a, .str b => if a.length + b.length ≤ sizeLine then some (.str (a ++ b)) else none
  | .add, .tup a, .tup b => if a.length + b.length ≤ sizeLine then some (.tup (a ++ b)) else none
  | .add, .lst a, .lst b => if a.length + b.length ≤ sizeLine then some (.lst (a ++ b)) else none
  | .sub, .int i, .int j => some (.int (i - j))
  | .mul, .int i, .int j => if i.natAbs.log2 + j.natAbs.log2 < 1000000 then some (.int (i * j)) else none
  | .mul, .lst l, .int k => if -(2 ^ 63) ≤ k ∧ k < 2 ^ 63 ∧ l.length * k.toNat ≤ sizeLine then some (.lst (List.replicate k.toNat l).flatten) else none
  | .fdiv, .int i, .int j => if 0 < j ∧ j.natAbs.log2 < 9000 then some (.int (i / j)) else none
  | .mod, .int i, .int j => if 0 < j then some (.int (i % j)) else none
  | .pow, .int i, .int j => if 0 ≤ j ∧ (Builtin.Int.intBits i : Int) * j ≤ 2 ^ 27 then some (.int (i ^ j.toNat)) else none
  | _, _, _ => none
def opC : Cp → Tr → Tr → Option Bool
  | .eq, x, y => eqT x y
  | .ne, x, y => (eqT x y).map (!·)
  | .lt, .int i, .int j => some (decide (i < j))
  | .le, .int i, .int j => some (decide (i ≤ j))
  | .gt, .int i, .int j => some (decide (j < i))
  | .ge, .int i, .int j => some (decide (j ≤ i))
  | .isN, x, .non => match x with
    | .non => some true
    | _ => some false
  | .notN, x, .non => match x with
    | .non => some false
    | _ => some true
  | .inn, x, y => inT x y
  | .nin, x, y => (inT x y).map (!·)
  | _, _, _ => none
def opC2 (o : Cp) (x y : Tr) : Option Bool := if x.pure && y.pure then opC o x y else none
def truth : Tr → Option Bool
  | .non => some false
  | .bl b => some b
  | .int i => some (i != 0)
  | .tup l => some !l.isEmpty
  | .lst l => some !l.isEmpty
  | _ => none
def idxT : Tr → Tr → Option Tr
  | .tup l, .int i => atI l i
  | .lst l, .int i => atI l i
  | .flst l, .int i => atI l i
  | .str z, .int i => if z.length ≤ sizeLine then (atI z.cps.toList i).map fun c => .str ⟨#[c]⟩ else none
  | _, _ => none
def cutT (l : List Tr) (lo hi : Option Int) : List Tr := (l.drop (HT.sIx l.length 0 lo)).take (HT.sIx l.length l.length hi - HT.sIx l.length 0 lo)
def slT : Tr → Option Int → Option Int → Option Tr
  | .tup l, lo, hi => some (.tup (cutT l lo hi))
  | .lst l, lo, hi => some (.lst (cutT l lo hi))
  | .flst l, lo, hi => some (.lst (cutT l lo hi))
  | _, _, _ => none
def intsOf : List Tr → Option (List Int)
  | [] => some []
  | .int i :: l => match intsOf l with
    | some is => some (i :: is)
    | none => none
  | _ => none
def boolsOf : List Tr → Option (List Bool)
  | [] => some []
  | .bl i :: l => match boolsOf l with
    | some is => some (i :: is)
    | none => none
  | _ => none
/-- a number's size, so that no checker unfolds it -/
def in62 (n : Int) : Bool := Nat.blt n.natAbs.log2 61
theorem in62_ok {n : Int} (h : in62 n = true) : -(2 ^ 62) ≤ n ∧ n < 2 ^ 62 := by
  have h1 : n.natAbs.log2 < 61 := by simpa [in62, Nat.blt_eq] using h
  have h2 : n.natAbs < 2 ^ 61 := Nat.lt_of_lt_of_le Nat.lt_log2_self (Nat.pow_le_pow_right (by omega) h1)
  omega
theorem in62_of {n : Int} (h : n.natAbs < 2 ^ 61) : in62 n = true := by
  have h1 : n.natAbs.log2 < 61 := by
    by_cases z : n.natAbs = 0
    · rw [z]; decide
    · exact (Nat.log2_lt z).mpr h
  simpa [in62, Nat.blt_eq] using h1
def rgT (a b : Int) : List Tr := (List.range (b - a).toNat).map fun (i : Nat) => Tr.int (a + i)
def biT : Bi → List Tr → Option Tr
  | .len, [.tup l] => some (.int l.length)
  | .len, [.lst l] => some (.int l.length)
  | .len, [.flst l] => some (.int l.length)
  | .len, [.str z] => if z.length ≤ sizeLine then some (.int z.length) else none
  | .abs, [.int i] => some (.int (if i < 0 then -i else i))
  | .int, [.int i] => some (.int i)
  | .int, [.bl k] => some (.int (if k then 1 else 0))
  | .sum, [.lst l] => (intsOf l).map fun is => .int is.sum
  | .sum, [.flst l] => (intsOf l).map fun is => .int is.sum
  | .max2, [.int i, .int j] => some (.int (if j > i then j else i))
  | .min2, [.int i, .int j] => some (.int (if j < i then j else i))
  | .listRg, [.int n] => if decide (0 ≤ n) && Nat.ble n.natAbs 16777216 then some (.lst (rgT 0 n)) else none
  | .listOf, [.tup l] => some (.lst l)
  | .listOf, [.lst l] => some (.lst l)
  | .listOf, [.flst l] => some (.lst l)
  | .tupOf, [.tup l] => some (.tup l)
  | .tupOf, [.lst l] => some (.tup l)
  | .tupOf, [.flst l] => some (.tup l)
  | .all, [.lst l] => (boolsOf l).map fun bs => .bl (bs.all id)
  | .any, [.lst l] => (boolsOf l).map fun bs => .bl (bs.any id)
  | .repr, [x] => reprT x
  | .isInt, [x] => match x with
    | .int _ => some (.bl true)
    | .bl _ => some (.bl true)
    | .ob _ => none
    | .bor _ => none
    | .flst _ => none
    | _ => some (.bl false)
  | .isBool, [x] => match x with
    | .bl _ => some (.bl true)
    | .ob _ => none
    | .bor _ => none
    | .flst _ => none
    | _ => some (.bl false)
  | .isStr, [x] => match x with
    | .str _ => some (.bl true)
    | .ob _ => none
    | .bor _ => none
    | .flst _ => none
    | _ => some (.bl false)
  | .isTup, [x] => match x with
    | .tup _ => some (.bl true)
    | .ob _ => none
    | .bor _ => none
    | .flst _ => none
    | _ => some (.bl false)
  | _, _ => none
def seqT : Tr → Option (List Tr)
  | .tup l => some l
  | .lst l => some l
  | .flst l => some l
  | _ => none
def enumT (l : List Tr) : List Tr := (List.range l.length).zipWith (fun (i : Nat) x => .tup [.int i, x]) l
def zipT (l m : List Tr) : List Tr := l.zipWith (fun x y => .tup [x, y]) m
/-- what a loop walks: 0 a sequence, 1 range(n), 2 range(a, b), 3 enumerate, 4 zip -/
def items : Nat → List Tr → Option (List Tr)
  | 0, [t] => seqT t
  | 1, [.int n] => if in62 n then some (rgT 0 n) else none
  | 2, [.int a, .int b] => if in62 a && in62 b then some (rgT a b) else none
  | 3, [t] => (seqT t).map enumT
  | 4, [.tup l, .tup m] => some (zipT l m)
  | 4, [.lst l, .lst m] => some (zipT l m)
  | _, _ => none
mutual
def asg : Tg → Tr → List Slot → Option (List Slot)
  | .nm i, t, env => if t.pure && decide (i < env.length) then some (env.set i (.val t)) else none
  | .tp gs, .tup l, env => asgs gs l env
  | .tp _, _, _ => none
def asgs : List Tg → List Tr → List Slot → Option (List Slot)
  | [], [], env => some env
  | g :: gs, t :: l, env => match asg g t env with
    | some env' => asgs gs l env'
    | none => none
  | _, _, _ => none
end
def Slot.lock : Slot → Slot
  | .own _ => .none
  | s => s
def wipeE (env : List Slot) : List Nat → List Slot
  | [] => env
  | v :: vs => (wipeE env vs).set v .none
def isNul : Ex → Bool
  | .nul => true
  | _ => false
/-- a comprehension's turns: what is made so far, backward order not used -/
def compGo (f : Tr → List Ob → Option (Option Tr × List Ob)) : List Tr → List Ob → List Tr → Option (List Tr × List Ob)
  | [], m, acc => some (acc, m)
  | x :: xs, m, acc => match f x m with
    | some (some y, m') => if acc.length < sizeLine then compGo f xs m' (acc ++ [y]) else none
    | some (none, m') => compGo f xs m' acc
    | none => none

def compF (tg : Tg) (env0 : List Slot) (cnd el : Sta → Rs Tr) (x : Tr) (m : List Ob) : Option (Option Tr × List Ob) := match asg tg x env0 with
  | some env1 => match cnd ⟨env1, m⟩ with
    | .ok (.bl true) s2 => (match el s2 with
      | .ok y s3 => if y.pure then some (some y, s3.mem) else none
      | .no => none)
    | .ok (.bl false) s2 => some (none, s2.mem)
    | _ => none
  | none => none
abbrev CF := Nat → List Tr → List Ob → Option (Tr × List Ob)
def fin : Bool → Rs Tr → Rs Tr
  | false, r => r
  | true, r => r.bind fun x s1 => Rs.of ((truth (s1.deref x)).map Tr.bl) s1
def asInt : Rs Tr → Rs (Option Int)
  | .ok (.int i) s => .ok (some i) s
  | _ => .no
section
variable (gc : List Tr) (cf : CF)
mutual
def evX : Ex → Bool → Sta → Rs Tr
  | .var i, md, s => fin md (match s.env[i]? with
    | some (.val t) => .ok t s
    | some (.own _) => .ok (.bor i) s
    | _ => .no)
  | .mv i, md, s => fin md (match s.env[i]? with
    | some (.own l) => .ok (.lst l) ⟨s.env.set i (.val (.lst l)), s.mem⟩
    | _ => .no)
  | .gl k, md, s => fin md (Rs.of gc[k]? s)
  | .int i, md, s => fin md (.ok (.int i) s)
  | .str x, md, s => fin md (.ok (.str x) s)
  | .bl b, md, s => fin md (.ok (.bl b) s)
  | .non, md, s => fin md (.ok .non s)
  | .nul, _, _ => .no
  | .tup es, md, s => fin md ((evEs es s).bind fun ts s1 => if ts.all Tr.pure && decide (ts.length ≤ sizeLine) then .ok (.tup ts) s1 else .no)
  | .lst es, md, s => fin md ((evEs es s).bind fun ts s1 => if ts.all Tr.pure && decide (ts.length ≤ sizeLine) then .ok (.lst ts) s1 else .no)
  | .shd es, md, s => fin md ((evEs es s).bind fun ts s1 => if ts.all Tr.pure && decide (ts.length ≤ sizeLine) then .ok (.ob s1.mem.length) ⟨s1.env, s1.mem ++ [.lst ts]⟩ else .no)
  | .bin o a b, md, s => fin md ((evX a false s).bind fun x s1 => (evX b false s1).bind fun y s2 => Rs.of (opB o (s2.deref x) (s2.deref y)) s2)
  | .neg a, md, s => fin md ((evX a false s).bind fun x s1 => match x with
    | .int i => .ok (.int (-i)) s1
    | _ => .no)
  | .cmp o a b, md, s => fin md ((evX a false s).bind fun x s1 => (evX b false s1).bind fun y s2 => Rs.of ((opC2 o (s2.deref x) (s2.deref y)).map Tr.bl) s2)
  | .chain o p a b c, md, s => fin md ((evX a false s).bind fun x s1 => (evX b false s1).bind fun y s2 => match opC2 o (s2.deref x) (s2.deref y) with
    | some true => (evX c false s2).bind fun z s3 => Rs.of ((opC2 p (s3.deref y) (s3.deref z)).map Tr.bl) s3
    | some false => .ok (.bl false) s2
    | none => .no)
  | .and_ a b, md, s => (evX a md s).bind fun x s1 => match x with
    | .bl true => evX b md s1
    | .bl false => .ok (.bl false) s1
    | _ => .no
  | .or_ a b, md, s => (evX a md s).bind fun x s1 => match x with
    | .bl false => evX b md s1
    | .bl true => .ok (.bl true) s1
    | _ => .no
  | .not_ a, md, s => (match md with
      | true => evX a true s
      | false => fin true (evX a false s)).bind fun x s1 => match x with
    | .bl b => .ok (.bl !b) s1
    | _ => .no
  | .ite c a b, md, s => (evX c true s).bind fun x s1 => match x with
    | .bl true => evX a md s1
    | .bl false => evX b md s1
    | _ => .no
  | .idx a b, md, s => fin md ((evX a false s).bind fun x s1 => (evX b false s1).bind fun y s2 => match s2.deref x with
    | .ob n => match s2.mem[n]? with
      | some (.lst l) => Rs.of (idxT (.lst l) y) s2
      | none => .no
    | t => Rs.of (idxT t y) s2)
  | .sl a lo hi, md, s => fin md ((evX a false s).bind fun x s1 => (if isNul lo then .ok none s1 else asInt (evX lo false s1)).bind fun l s2 =>
      (if isNul hi then .ok none s2 else asInt (evX hi false s2)).bind fun h s3 => Rs.of (slT (s3.deref x) l h) s3)
  | .rev a, md, s => fin md ((evX a false s).bind fun x s1 => match s1.deref x with
    | .lst l => .ok (.lst l.reverse) s1
    | .tup l => .ok (.tup l.reverse) s1
    | _ => .no)
  | .bad, _, _ => .no
  | .disp k bs es, md, s => fin md ((evSt es bs s).bind fun ts s1 => if ts.all Tr.pure && decide (ts.length ≤ sizeLine) then (match k with
      | 0 => .ok (.tup ts) s1
      | 1 => .ok (.lst ts) s1
      | _ => .ok (.ob s1.mem.length) ⟨s1.env, s1.mem ++ [.lst ts]⟩) else .no)
  | .callK f es ks, md, s => fin md ((evEs es s).bind fun ts s1 => (evEs ks s1).bind fun us s2 => if (ts ++ us).all Tr.pure then match cf f (ts ++ us) s2.mem with
      | some (t, m) => .ok t ⟨s2.env, m⟩
      | none => .no
    else .no)
  | .call f es, md, s => fin md ((evEs es s).bind fun ts s1 => if ts.all Tr.pure then match cf f ts s1.mem with
      | some (t, m) => .ok t ⟨s1.env, m⟩
      | none => .no
    else .no)
  | .bi b es, md, s => fin md ((evEs es s).bind fun ts s1 => if (ts.map s1.deref).all Tr.pure then Rs.of (biT b (ts.map s1.deref)) s1 else .no)
  | .pop i, md, s => fin md (match s.env[i]? with
    | some (.own l) => match l.getLast? with
      | some t => .ok t ⟨s.env.set i (.own l.dropLast), s.mem⟩
      | none => .no
    | _ => .no)
  | .comp k elt tg its cond own, md, s => fin md ((evEs its s).bind fun vs s1 => match (if (vs.map s1.deref).all Tr.pure then items k (vs.map s1.deref) else none) with
    | some xs => match compGo (compF tg (wipeE (s1.env.map Slot.lock) own) (fun s => if isNul cond then .ok (.bl true) s else evX cond true s) (fun s => evX elt false s)) xs s1.mem [] with
      | some (ys, m) => .ok (.lst ys) ⟨s1.env, m⟩
      | none => .no
    | none => .no)
def evEs : List Ex → Sta → Rs (List Tr)
  | [], s => .ok [] s
  | e :: es, s => (evX e false s).bind fun t s1 => (evEs es s1).bind fun ts s2 => .ok (t :: ts) s2
def evSt : List Ex → List Bool → Sta → Rs (List Tr)
  | [], _, s => .ok [] s
  | e :: es, bs, s => (evX e false s).bind fun t s1 => if bs.headD false then (match seqT (s1.deref t) with
      | some l => (evSt es bs.tail s1).bind fun ts s2 => .ok (l ++ ts) s2
      | none => .no)
    else (evSt es bs.tail s1).bind fun ts s2 => .ok (t :: ts) s2
end

/-! ### statements -/
inductive Fl where
  | next | brk | cont | ret (t : Tr)
def manyGo : List (Nat × Bool) → List Tr → List Slot → Option (List Slot)
  | [], [], env => some env
  | (i, o) :: is, t :: ts, env => if i < env.length then match o, t with
      | true, .lst l => manyGo is ts (env.set i (.own l))
      | true, _ => none
      | false, t => manyGo is ts (env.set i (.val t))
    else none
  | _, _, _ => none
def isDisp : Ex → Bool
  | .lst _ => true
  | .bi .listOf _ => true
  | _ => false
/-- elements that become own lists are displays -/
def dispOk : List (Nat × Bool) → List Ex → Bool
  | [], [] => true
  | (_, o) :: is, e :: es => (!o || isDisp e) && dispOk is es
  | _, _ => false
def forGo (tg : Tg) (f : Sta → Rs Fl) : List Tr → Sta → Rs Fl
  | [], s => .ok .next s
  | x :: xs, s => match asg tg x s.env with
    | some env => match f ⟨env, s.mem⟩ with
      | .ok .next s1 => forGo tg f xs s1
      | .ok .cont s1 => forGo tg f xs s1
      | .ok .brk s1 => .ok .next s1
      | .ok (.ret t) s1 => .ok (.ret t) s1
      | .no => .no
    | none => .no
def whGo (c : Sta → Rs Tr) (f : Sta → Rs Fl) : Nat → Sta → Rs Fl
  | 0, _ => .no
  | n + 1, s => match c s with
    | .ok (.bl true) s1 => match f s1 with
      | .ok .next s2 => whGo c f n s2
      | .ok .cont s2 => whGo c f n s2
      | .ok .brk s2 => .ok .next s2
      | .ok (.ret t) s2 => .ok (.ret t) s2
      | .no => .no
    | .ok (.bl false) s1 => .ok .next s1
    | _ => .no
variable (wf : Nat)
mutual
def exS : Sm → Sta → Rs Fl
  | .set i e, s => (evX gc cf e false s).bind fun t s1 => if t.pure && decide (i < s1.env.length) then .ok .next ⟨s1.env.set i (.val t), s1.mem⟩ else .no
  | .own i es, s => (evEs gc cf es s).bind fun ts s1 => if ts.all Tr.pure && decide (ts.length ≤ sizeLine) && decide (i < s1.env.length) then .ok .next ⟨s1.env.set i (.own ts), s1.mem⟩ else .no
  | .ownOf i e, s => (evX gc cf e false s).bind fun t s1 => match seqT (s1.deref t) with
    | some l => if i < s1.env.length then .ok .next ⟨s1.env.set i (.own l), s1.mem⟩ else .no
    | none => .no
  | .many is es, s => (evEs gc cf es s).bind fun ts s1 => if ts.all Tr.pure then match manyGo is ts s1.env with
      | some env => .ok .next ⟨env, s1.mem⟩
      | none => .no
    else .no
  | .tgt tg e, s => (evX gc cf e false s).bind fun t s1 => match asg tg t s1.env with
    | some env => .ok .next ⟨env, s1.mem⟩
    | none => .no
  | .aug i o e, s => match s.env[i]? with
    | some (.val (.int x)) => (evX gc cf e false s).bind fun y s1 => match o, y with
      | .add, .int y => .ok .next ⟨s1.env.set i (.val (.int (x + y))), s1.mem⟩
      | .sub, .int y => .ok .next ⟨s1.env.set i (.val (.int (x - y))), s1.mem⟩
      | _, _ => .no
    | _ => .no
  | .put o k v, s => (evX gc cf v false s).bind fun t s1 => (evX gc cf o false s1).bind fun x s2 => (evX gc cf k false s2).bind fun y s3 => match x, y with
    | .ob n, .int i => match s3.mem[n]? with
      | some (.lst l) => match ixN l.length i with
        | some j => if t.pure then .ok .next ⟨s3.env, s3.mem.set n (.lst (l.set j t))⟩ else .no
        | none => .no
      | none => .no
    | _, _ => .no
  | .app i e, s => match s.env[i]? with
    | some (.own _) => (evX gc cf e false s).bind fun t s1 => match s1.env[i]? with
      | some (.own l) => if t.pure && decide (l.length < sizeLine) then .ok .next ⟨s1.env.set i (.own (l ++ [t])), s1.mem⟩ else .no
      | _ => .no
    | _ => .no
  | .ext i e, s => match s.env[i]? with
    | some (.own _) => (evX gc cf e false s).bind fun t s1 => match s1.env[i]?, t with
      | some (.own l), .lst m => if l.length + m.length ≤ sizeLine then .ok .next ⟨s1.env.set i (.own (l ++ m)), s1.mem⟩ else .no
      | some (.own l), .tup m => if l.length + m.length ≤ sizeLine then .ok .next ⟨s1.env.set i (.own (l ++ m)), s1.mem⟩ else .no
      | _, _ => .no
    | _ => .no
  | .ex e, s => (evX gc cf e false s).bind fun _ s1 => .ok .next s1
  | .ret e, s => (evX gc cf e false s).bind fun t s1 => if t.pure then .ok (.ret t) s1 else .no
  | .retN, s => .ok (.ret .non) s
  | .ite c a b, s => (evX gc cf c true s).bind fun x s1 => match x with
    | .bl true => exSs a s1
    | .bl false => exSs b s1
    | _ => .no
  | .forr k tg its b, s => (evEs gc cf its s).bind fun vs s1 => if vs.all Tr.pure then match items k vs with
      | some xs => forGo tg (exSs b) xs s1
      | none => .no
    else .no
  | .whl c b, s => whGo (evX gc cf c true) (exSs b) wf s
  | .brk, s => .ok .brk s
  | .cont, s => .ok .cont s
  | .pass, s => .ok .next s
  | .bad, _ => .no
def exSs : List Sm → Sta → Rs Fl
  | [], s => .ok .next s
  | x :: xs, s => (exS x s).bind fun f s1 => match f with
    | .next => exSs xs s1
    | .brk => .ok .brk s1
    | .cont => .ok .cont s1
    | .ret t => .ok (.ret t) s1
end
end
/-- a def: parameters, names, body -/
structure Fn where
  par : Nat
  loc : Nat
  body : List Sm
def callF (gc : List Tr) (wf : Nat) (fs : List Fn) : Nat → CF
  | 0 => fun _ _ _ => none
  | d + 1 => fun f ts m => match fs[f]? with
    | some fn => if ts.length = fn.par then match exSs gc (callF gc wf fs d) wf fn.body ⟨ts.map Slot.val ++ List.replicate (fn.loc - ts.length) Slot.none, m⟩ with
        | .ok .next s => some (.non, s.mem)
        | .ok (.ret t) s => some (t, s.mem)
        | _ => none
      else none
    | none => none
end Ev
/-! The relation between the evaluator's states and the abstract heap. -/
namespace Ev
open PySem PySem.Spec L2

def FLe (F F' : Hp) : Prop := ∀ a o, F a = some o → F' a = some o
theorem FLe.refl (F : Hp) : FLe F F := fun _ _ h => h
theorem FLe.trans {F F1 F2 : Hp} (a : FLe F F1) (b : FLe F1 F2) : FLe F F2 := fun c o h => b c o (a c o h)
theorem FLe.tup {K : PySem.W.Frag} {F F' : Hp} {a : Addr} {xs : List V} (h : FLe F F') (q : SqT K F a xs) : SqT K F' a xs := by
  rcases q with (q | ⟨o, q⟩) | q
  · exact .inl (.inl (h _ _ q))
  · exact .inl (.inr ⟨o, h _ _ q⟩)
  · exact .inr q
theorem FLe.lst {K : PySem.W.Frag} {F F' : Hp} {a : Addr} {xs : List V} (h : FLe F F') (q : SqL K F a xs) : SqL K F' a xs := by
  rcases q with (q | ⟨o, q⟩) | q
  · exact .inl (.inl (h _ _ q))
  · exact .inl (.inr ⟨o, h _ _ q⟩)
  · exact .inr q
theorem FLe.new {F H : Hp} {p : Addr} {o : HO} (h : FLe F H) (n : H p = none) : FLe F (upd H p o) := fun a u e => by
  rw [upd_ne (ne_of_none (h a u e) n)]
  exact h a u e
theorem FLe.upd1 {F : Hp} {p : Addr} {o : HO} (n : F p = none) : FLe F (upd F p o) := fun a u e => by
  rw [upd_ne (ne_of_none e n)]
  exact e
theorem FLe.both {F H : Hp} {p : Addr} {o : HO} (h : FLe F H) : FLe (upd F p o) (upd H p o) := fun a u e => by
  by_cases z : a = p
  · subst z
    rw [upd_same] at e ⊢
    exact e
  · rw [upd_ne z] at e ⊢
    exact h a u e
theorem FLe.none {F H : Hp} {p : Addr} (h : FLe F H) (n : H p = none) : F p = none := by
  cases e : F p with
  | none => rfl
  | some o => rw [h p o e] at n; cases n

mutual
inductive Rp (K : PySem.W.Frag) (F : Hp) (θ : List Addr) : Tr → V → Prop
  | non : Rp K F θ .non .non
  | bl (b : Bool) : Rp K F θ (.bl b) (.bl b)
  | int (i : Int) : Rp K F θ (.int i) (.int i)
  | str (x : Str) : Rp K F θ (.str x) (.str x)
  | tup {a : Addr} {xs : List V} {l : List Tr} : SqT K F a xs → Rps K F θ l xs → Rp K F θ (.tup l) (.ref a)
  | lst {a : Addr} {xs : List V} {l : List Tr} : F a = some (.lst xs) → Rps K F θ l xs → Rp K F θ (.lst l) (.ref a)
  | flst {a : Addr} {xs : List V} {l : List Tr} : SqL K F a xs → Rps K F θ l xs → Rp K F θ (.flst l) (.ref a)
  | ob {a : Addr} {n : Nat} : θ[n]? = some a → Rp K F θ (.ob n) (.ref a)
inductive Rps (K : PySem.W.Frag) (F : Hp) (θ : List Addr) : List Tr → List V → Prop
  | nil : Rps K F θ [] []
  | cons {t : Tr} {l : List Tr} {v : V} {vs : List V} : Rp K F θ t v → Rps K F θ l vs → Rps K F θ (t :: l) (v :: vs)
end
variable {K : PySem.W.Frag} {F F' : Hp} {θ θ' : List Addr}
theorem pre_get {α : Type} {l l' : List α} (h : l <+: l') {n : Nat} {a : α} (e : l[n]? = some a) : l'[n]? = some a := by
  obtain ⟨r, rfl⟩ := h
  have hn : n < l.length := (List.getElem?_eq_some_iff.mp e).1
  rw [List.getElem?_append_left hn]
  exact e
mutual
theorem Rp.mono (hF : FLe F F') (hθ : θ <+: θ') : ∀ {t : Tr} {v : V}, Rp K F θ t v → Rp K F' θ' t v
  | _, _, .non => .non
  | _, _, .bl b => .bl b
  | _, _, .int i => .int i
  | _, _, .str x => .str x
  | _, _, .tup h r => .tup (hF.tup h) (Rps.mono hF hθ r)
  | _, _, .lst h r => .lst (hF _ _ h) (Rps.mono hF hθ r)
  | _, _, .flst h r => .flst (hF.lst h) (Rps.mono hF hθ r)
  | _, _, .ob h => .ob (pre_get hθ h)
theorem Rps.mono (hF : FLe F F') (hθ : θ <+: θ') : ∀ {l : List Tr} {vs : List V}, Rps K F θ l vs → Rps K F' θ' l vs
  | _, _, .nil => .nil
  | _, _, .cons r s => .cons (Rp.mono hF hθ r) (Rps.mono hF hθ s)
end
theorem Rp.pure {t : Tr} {v : V} (r : Rp K F θ t v) : t.pure = true := by cases r <;> rfl
theorem Rps.length : ∀ {l : List Tr} {vs : List V}, Rps K F θ l vs → vs.length = l.length
  | _, _, .nil => rfl
  | _, _, .cons _ s => by rw [List.length_cons, List.length_cons, s.length]
theorem Rps.get : ∀ {l : List Tr} {vs : List V} {i : Nat} {t : Tr}, Rps K F θ l vs → l[i]? = some t → ∃ v, vs[i]? = some v ∧ Rp K F θ t v
  | _, _, _, _, .nil, e => by simp at e
  | _, _, 0, _, .cons r _, e => by simp at e; subst e; exact ⟨_, rfl, r⟩
  | _, _, i + 1, t, .cons _ s, e => by
    obtain ⟨v, h1, h2⟩ := Rps.get (i := i) (t := t) s (by simpa using e)
    exact ⟨v, by simpa using h1, h2⟩
theorem Rps.get' : ∀ {l : List Tr} {vs : List V} {i : Nat} {v : V}, Rps K F θ l vs → vs[i]? = some v → ∃ t, l[i]? = some t ∧ Rp K F θ t v
  | _, _, _, _, .nil, e => by simp at e
  | _, _, 0, _, .cons r _, e => by simp at e; subst e; exact ⟨_, rfl, r⟩
  | _, _, i + 1, t, .cons _ s, e => by
    obtain ⟨v, h1, h2⟩ := Rps.get' (i := i) (v := t) s (by simpa using e)
    exact ⟨v, by simpa using h1, h2⟩
theorem Rps.append : ∀ {l m : List Tr} {xs ys : List V}, Rps K F θ l xs → Rps K F θ m ys → Rps K F θ (l ++ m) (xs ++ ys)
  | _, _, _, _, .nil, s => s
  | _, _, _, _, .cons r t, s => .cons r (Rps.append t s)
theorem Rps.drop : ∀ {l : List Tr} {xs : List V} (n : Nat), Rps K F θ l xs → Rps K F θ (l.drop n) (xs.drop n)
  | _, _, 0, r => r
  | _, _, _ + 1, .nil => .nil
  | _, _, n + 1, .cons _ t => Rps.drop n t
theorem Rps.take : ∀ {l : List Tr} {xs : List V} (n : Nat), Rps K F θ l xs → Rps K F θ (l.take n) (xs.take n)
  | _, _, 0, _ => .nil
  | _, _, _ + 1, .nil => .nil
  | _, _, n + 1, .cons r t => .cons r (Rps.take n t)
theorem Rps.set {t : Tr} {v : V} (r : Rp K F θ t v) : ∀ {l : List Tr} {xs : List V} (i : Nat), Rps K F θ l xs → Rps K F θ (l.set i t) (xs.set i v)
  | _, _, _, .nil => .nil
  | _, _, 0, .cons _ s => .cons r s
  | _, _, i + 1, .cons q s => .cons q (Rps.set r i s)
theorem Rps.reverse : ∀ {l : List Tr} {xs : List V}, Rps K F θ l xs → Rps K F θ l.reverse xs.reverse
  | _, _, .nil => .nil
  | _, _, .cons r s => by
    rw [List.reverse_cons, List.reverse_cons]
    exact Rps.append (Rps.reverse s) (.cons r .nil)
theorem Rps.rep {l : List Tr} {xs : List V} (r : Rps K F θ l xs) : ∀ k : Nat, Rps K F θ (List.replicate k l).flatten (List.replicate k xs).flatten
  | 0 => .nil
  | k + 1 => by
    rw [List.replicate_succ, List.replicate_succ, List.flatten_cons, List.flatten_cons]
    exact Rps.append r (Rps.rep r k)
theorem Rps.dropLast {l : List Tr} {xs : List V} (r : Rps K F θ l xs) : Rps K F θ l.dropLast xs.dropLast := by
  rw [List.dropLast_eq_take, List.dropLast_eq_take, r.length]
  exact r.take _

/-- a slot -/
def RpS (K : PySem.W.Frag) (F G : Hp) (θ : List Addr) (H : Hp) : Slot → Option (Option V) → Prop
  | .none, _ => True
  | .val t, v => ∃ x, v = some (some x) ∧ Rp K F θ t x
  | .own l, v => ∃ a xs, v = some (some (.ref a)) ∧ H a = some (.lst xs) ∧ F a = none ∧ G a = none ∧ a ∉ θ ∧ Rps K F θ l xs
def RpO (K : PySem.W.Frag) (F : Hp) (θ : List Addr) : Ob → Option HO → Prop
  | .lst l, o => ∃ xs, o = some (.lst xs) ∧ Rps K F θ l xs
/-- what is shared: F the things that stay, G the things that others hold, θ the shared objects -/
structure RelM (K : PySem.W.Frag) (F G : Hp) (θ : List Addr) (m : List Ob) (H : Hp) : Prop where
  fle : FLe F H
  gle : FLe G H
  fg : ∀ a o, G a = some o → F a = none
  len : m.length = θ.length
  nd : θ.Nodup
  ob : ∀ (n : Nat) o, m[n]? = some o → ∃ a, θ[n]? = some a ∧ F a = none ∧ G a = none ∧ RpO K F θ o (H a)
structure Rel (K : PySem.W.Frag) (F G : Hp) (θ : List Addr) (s : Sta) (σ : St) (H : Hp) : Prop where
  m : RelM K F G θ s.mem H
  len : s.env.length = σ.length
  slot : ∀ (i : Nat) x, s.env[i]? = some x → RpS K F G θ H x σ[i]?
  dis : ∀ (i j : Nat) l l' a, s.env[i]? = some (.own l) → s.env[j]? = some (.own l') → σ[i]? = some (some (.ref a)) → σ[j]? = some (some (.ref a)) → i = j
/-- an operand -/
def RpV (K : PySem.W.Frag) (F : Hp) (θ : List Addr) (σ : St) : Tr → V → Prop
  | .bor i, v => σ[i]? = some (some v)
  | t, v => Rp K F θ t v
theorem RpV.mono {σ : St} {t : Tr} {v : V} (hF : FLe F F') (hθ : θ <+: θ') (r : RpV K F θ σ t v) : RpV K F' θ' σ t v := by
  cases t <;> first | exact Rp.mono hF hθ r | exact r
theorem RpV.of {σ : St} {t : Tr} {v : V} (r : Rp K F θ t v) : RpV K F θ σ t v := by cases r <;> (first | exact .non | exact .bl _ | exact .int _ | exact .str _ | exact .tup ‹_› ‹_› | exact .lst ‹_› ‹_› | exact .flst ‹_› ‹_› | exact .ob ‹_›)
theorem RpV.rp {σ : St} {t : Tr} {v : V} (r : RpV K F θ σ t v) (p : t.pure = true) : Rp K F θ t v := by
  cases t <;> first | exact r | exact nomatch p
/-- an operand, read at the heap H -/
def RpH (K : PySem.W.Frag) (F : Hp) (θ : List Addr) (H : Hp) : Tr → V → Prop
  | .lst l, v => ∃ a xs, v = .ref a ∧ H a = some (.lst xs) ∧ Rps K F θ l xs
  | .bor _, _ => False
  | t, v => Rp K F θ t v
variable {G H : Hp} {s : Sta} {σ : St}
theorem RpH.of {t : Tr} {v : V} (h : FLe F H) (r : Rp K F θ t v) : RpH K F θ H t v := by
  cases r with
  | lst e q => exact ⟨_, _, rfl, h _ _ e, q⟩
  | non => exact .non
  | bl b => exact .bl b
  | int i => exact .int i
  | str x => exact .str x
  | tup e q => exact .tup e q
  | flst e q => exact .flst e q
  | ob e => exact .ob e
/-- reading an operand: nothing is known of a borrowed thing whose slot is gone -/
theorem deref_none {i : Nat} (e : s.env[i]? = none) : s.deref (.bor i) = .bor i := by simp only [Sta.deref, e]
theorem deref_slot {i : Nat} {x : Slot} (e : s.env[i]? = some x) : s.deref (.bor i) = (match x with
    | .own l => .lst l
    | .val t => t
    | _ => .bor i) := by simp only [Sta.deref, e]; cases x <;> rfl
theorem Rel.deref (R : Rel K F G θ s σ H) {t : Tr} {v : V} (r : RpV K F θ σ t v) : (∃ i, s.deref t = .bor i) ∨ RpH K F θ H (s.deref t) v := by
  cases t with
  | bor i =>
    have r' : σ[i]? = some (some v) := r
    cases e : s.env[i]? with
    | none => exact .inl ⟨i, deref_none e⟩
    | some x =>
      have q := R.slot i x e
      rw [deref_slot e]
      cases x with
      | none => exact .inl ⟨i, rfl⟩
      | val t =>
        obtain ⟨y, e1, q⟩ := q
        rw [r'] at e1
        cases e1
        exact .inr (RpH.of R.m.fle q)
      | own l =>
        obtain ⟨a, xs, e1, h, _, _, _, q⟩ := q
        rw [r'] at e1
        cases e1
        exact .inr ⟨a, xs, rfl, h, q⟩
  | _ => exact .inr (RpH.of R.m.fle r)

/-! ### the state behind something new -/
/-- a new thing that stays -/
theorem RelM.newF {m : List Ob} {p : Addr} {o : HO} (R : RelM K F G θ m H) (n : H p = none) : RelM K (upd F p o) G θ m (upd H p o) := by
  have fp : F p = none := R.fle.none n
  have gp : G p = none := R.gle.none n
  refine ⟨R.fle.both, R.gle.new n, fun a u e => ?_, R.len, R.nd, fun k u e => ?_⟩
  · rw [upd_ne (ne_of_none e gp)]
    exact R.fg a u e
  · obtain ⟨a, h1, h2, h3, h4⟩ := R.ob k u e
    have ne : a ≠ p := by
      rintro rfl
      cases u
      obtain ⟨xs, q, _⟩ := h4
      rw [n] at q
      cases q
    refine ⟨a, h1, by rw [upd_ne ne]; exact h2, h3, ?_⟩
    rw [upd_ne ne]
    cases u
    obtain ⟨xs, q, r⟩ := h4
    exact ⟨xs, q, r.mono (FLe.upd1 fp) (List.prefix_refl _)⟩
theorem RpS.newF {p : Addr} {o : HO} {x : Slot} {v : Option (Option V)} (fp : F p = none) (n : H p = none) (r : RpS K F G θ H x v) : RpS K (upd F p o) G θ (upd H p o) x v := by
  cases x with
  | none => exact r
  | val t => obtain ⟨y, e, q⟩ := r; exact ⟨y, e, q.mono (FLe.upd1 fp) (List.prefix_refl _)⟩
  | own l =>
    obtain ⟨a, xs, e, h, f, g, t, q⟩ := r
    have ne : a ≠ p := ne_of_none h n
    exact ⟨a, xs, e, by rw [upd_ne ne]; exact h, by rw [upd_ne ne]; exact f, g, t, q.mono (FLe.upd1 fp) (List.prefix_refl _)⟩
theorem Rel.newF {p : Addr} {o : HO} (R : Rel K F G θ s σ H) (n : H p = none) : Rel K (upd F p o) G θ s σ (upd H p o) :=
  ⟨R.m.newF n, R.len, fun i x e => (R.slot i x e).newF (R.m.fle.none n) n, R.dis⟩
/-- a new object of nobody's -/
theorem Rel.junk {p : Addr} {o : HO} (R : Rel K F G θ s σ H) (n : H p = none) : Rel K F G θ s σ (upd H p o) := by
  refine ⟨⟨R.m.fle.new n, R.m.gle.new n, R.m.fg, R.m.len, R.m.nd, fun k u e => ?_⟩, R.len, fun i x e => ?_, R.dis⟩
  · obtain ⟨a, h1, h2, h3, h4⟩ := R.m.ob k u e
    refine ⟨a, h1, h2, h3, ?_⟩
    cases u
    obtain ⟨xs, q, r⟩ := h4
    exact ⟨xs, by rw [upd_ne (ne_of_none q n)]; exact q, r⟩
  · have r := R.slot i x e
    cases x with
    | none => exact r
    | val t => exact r
    | own l => obtain ⟨a, xs, e, h, f⟩ := r; exact ⟨a, xs, e, by rw [upd_ne (ne_of_none h n)]; exact h, f⟩
end Ev
/-! Operations by values. -/
namespace Ev
open PySem PySem.Spec L2
variable {K : PySem.W.Frag} {F F' G H : Hp} {θ θ' : List Addr} {s : Sta} {σ : St}

def Op.py : Op → Operator
  | .add => .Add | .sub => .Sub | .mul => .Mult | .fdiv => .FloorDiv | .mod => .Mod | .pow => .Pow
def Cp.py : Cp → CmpOp
  | .eq => .Eq | .ne => .NotEq | .lt => .Lt | .le => .LtE | .gt => .Gt | .ge => .GtE | .isN => .Is | .notN => .IsNot | .inn => .In | .nin => .NotIn

/-- what is wanted of a result: the state stands, F has grown -/
def Fin (K : PySem.W.Frag) (F G : Hp) (θ : List Addr) (s : Sta) (σ : St) (t : Tr) (Q : VK) : Prop :=
  ∀ u H' F', Rel K F' G θ s σ H' → FLe F F' → Rp K F' θ t u → Q u H'
theorem Fin.same {t : Tr} {u : V} {Q : VK} (k : Fin K F G θ s σ t Q) (R : Rel K F G θ s σ H) (r : Rp K F θ t u) : Q u H := k u H F R (FLe.refl F) r
theorem Fin.tup {l : List Tr} {xs : List V} {Q : VK} {p : Addr} (k : Fin K F G θ s σ (.tup l) Q) (R : Rel K F G θ s σ H) (n : H p = none) (r : Rps K F θ l xs) : Q (.ref p) (upd H p (.tup xs)) :=
  k _ _ _ (R.newF n) (FLe.upd1 (R.m.fle.none n)) (.tup (SqT.of upd_same) (r.mono (FLe.upd1 (R.m.fle.none n)) (List.prefix_refl _)))
theorem Fin.lst {l : List Tr} {xs : List V} {Q : VK} {p : Addr} (k : Fin K F G θ s σ (.lst l) Q) (R : Rel K F G θ s σ H) (n : H p = none) (r : Rps K F θ l xs) : Q (.ref p) (upd H p (.lst xs)) :=
  k _ _ _ (R.newF n) (FLe.upd1 (R.m.fle.none n)) (.lst upd_same (r.mono (FLe.upd1 (R.m.fle.none n)) (List.prefix_refl _)))

def rOp (K : PySem.W.Frag) (x y t : Tr) : R2 := fun v w H Q => ∃ F G θ s σ, Rel K F G θ s σ H ∧ RpH K F θ H x v ∧ RpH K F θ H y w ∧ Fin K F G θ s σ t Q
theorem tupH {l : List Tr} {v : V} (r : RpH K F θ H (.tup l) v) (h : FLe F H) : ∃ a xs, v = .ref a ∧ SqT K H a xs ∧ Rps K F θ l xs ∧ SqT K F a xs := by
  have r' : Rp K F θ (.tup l) v := r
  cases r' with
  | tup e q => exact ⟨_, _, rfl, h.tup e, q, e⟩
theorem intH {i : Int} {v : V} (r : RpH K F θ H (.int i) v) : v = .int i := by
  have r' : Rp K F θ (.int i) v := r
  cases r'; rfl
theorem strH {i : Str} {v : V} (r : RpH K F θ H (.str i) v) : v = .str i := by
  have r' : Rp K F θ (.str i) v := r
  cases r'; rfl
theorem blH {i : Bool} {v : V} (r : RpH K F θ H (.bl i) v) : v = .bl i := by
  have r' : Rp K F θ (.bl i) v := r
  cases r'; rfl
theorem nonH {v : V} (r : RpH K F θ H .non v) : v = .non := by
  have r' : Rp K F θ .non v := r
  cases r'; rfl
theorem flstH {l : List Tr} {v : V} (r : RpH K F θ H (.flst l) v) (h : FLe F H) : ∃ a xs, v = .ref a ∧ SqL K H a xs ∧ Rps K F θ l xs := by
  have r' : Rp K F θ (.flst l) v := r
  cases r' with
  | flst e q => exact ⟨_, _, rfl, h.lst e, q⟩

theorem op_powB {X : Cx} : OpR X (binaryOp .Pow) (rI (fun i j => 0 ≤ j ∧ (Builtin.Int.intBits i : Int) * j ≤ 2 ^ 27) fun i j => .int (i ^ j.toNat)) := opI fun _ _ _ _ _ _ _ hc q => PyProof.Rows.pow_int hc.1 hc.2 q

theorem opB_ok {X : Cx} {o : Op} {x y t : Tr} (h : opB o x y = some t) : OpR X (binaryOp o.py) (rOp X.K x y t) := by
  intro pins s0 σ0 H v w v' w' Q I rv rw ⟨F, G, θ, s, σ, R, r1, r2, k⟩
  unfold opB at h
  split at h
  · cases h
    cases intH r1; cases intH r2
    exact op_add pins s0 σ0 H _ _ _ _ Q I rv rw ⟨_, _, rfl, rfl, k.same R (.int _)⟩
  · split at h
    · cases h
      cases strH r1; cases strH r2
      exact op_add_str pins s0 σ0 H _ _ _ _ Q I rv rw ⟨_, _, rfl, rfl, by assumption, k.same R (.str _)⟩
    · cases h
  · split at h
    · rename_i hz
      cases h
      obtain ⟨a, xs, rfl, ha, qa, fa⟩ := tupH r1 R.m.fle
      obtain ⟨b, ys, rfl, hb, qb, fb⟩ := tupH r2 R.m.fle
      refine op_catA pins s0 σ0 H _ _ _ _ Q I rv rw ⟨a, b, xs, ys, rfl, rfl, ha, hb, by rw [qa.length, qb.length]; exact hz, fun e => ?_, fun e e' => ?_, fun _ _ p np => ?_⟩
      · subst e
        cases qa
        exact k.same R (.tup fb qb)
      · subst e'
        cases qb
        exact k.same R (.tup fa (by simpa using qa))
      · exact k.tup R np (qa.append qb)
    · cases h
  · split at h
    · rename_i hz
      cases h
      obtain ⟨a, xs, rfl, ha, qa⟩ := r1
      obtain ⟨b, ys, rfl, hb, qb⟩ := r2
      exact op_cat pins s0 σ0 H _ _ _ _ Q I rv rw ⟨a, b, xs, ys, rfl, rfl, ha, hb, by rw [qa.length, qb.length]; exact hz, fun p np => k.lst R np (qa.append qb)⟩
    · cases h
  · cases h
    cases intH r1; cases intH r2
    exact op_sub pins s0 σ0 H _ _ _ _ Q I rv rw ⟨_, _, rfl, rfl, k.same R (.int _)⟩
  · split at h
    · cases h
      cases intH r1; cases intH r2
      exact op_mulW pins s0 σ0 H _ _ _ _ Q I rv rw ⟨_, _, rfl, rfl, by assumption, k.same R (.int _)⟩
    · cases h
  · split at h
    · rename_i hz
      cases h
      obtain ⟨a, xs, rfl, ha, qa⟩ := r1
      cases intH r2
      exact op_rep pins s0 σ0 H _ _ _ _ Q I rv rw ⟨a, _, xs, rfl, rfl, ha, hz.1, hz.2.1, by rw [qa.length]; exact hz.2.2, fun p np => k.lst R np (qa.rep _)⟩
    · cases h
  · split at h
    · cases h
      cases intH r1; cases intH r2
      exact op_fdivW pins s0 σ0 H _ _ _ _ Q I rv rw ⟨_, _, rfl, rfl, by assumption, k.same R (.int _)⟩
    · cases h
  · split at h
    · cases h
      cases intH r1; cases intH r2
      exact op_mod pins s0 σ0 H _ _ _ _ Q I rv rw ⟨_, _, rfl, rfl, by assumption, k.same R (.int _)⟩
    · cases h
  · split at h
    · cases h
      cases intH r1; cases intH r2
      exact op_powB pins s0 σ0 H _ _ _ _ Q I rv rw ⟨_, _, rfl, rfl, by assumption, k.same R (.int _)⟩
    · cases h
  · cases h
theorem opB_nb {o : Op} {x y t : Tr} (h : opB o x y = some t) : x.pure = true ∧ y.pure = true := by
  cases o <;> cases x <;> cases y <;> first | exact ⟨rfl, rfl⟩ | (exact nomatch h)

/-! ### data -/
mutual
theorem dp_of (hF : FLe F H) : ∀ (t : Tr) (v : V) (d : PyData), t.data = some d → RpH K F θ H t v → Dp K H v d
  | .non, v, d, e, r => by
    cases e; cases nonH r; exact .non
  | .bl b, v, d, e, r => by
    cases e; cases blH r; exact .bl b
  | .int i, v, d, e, r => by
    cases e; cases intH r; exact .int i
  | .str x, v, d, e, r => by
    cases e; cases strH r; exact .str x
  | .tup l, v, d, e, r => by
    obtain ⟨a, xs, rfl, h, q, _⟩ := tupH r hF
    simp only [Tr.data] at e
    cases e2 : datas l with
    | none => rw [e2] at e; cases e
    | some ds =>
      rw [e2] at e
      cases e
      exact .tup h (dps_of hF l xs ds e2 q)
  | .lst l, v, d, e, r => by
    obtain ⟨a, xs, rfl, h, q⟩ := r
    simp only [Tr.data] at e
    cases e2 : datas l with
    | none => rw [e2] at e; cases e
    | some ds =>
      rw [e2] at e
      cases e
      exact .lst (SqL.of h) (dps_of hF l xs ds e2 q)
  | .flst l, v, d, e, r => by
    obtain ⟨a, xs, rfl, h, q⟩ := flstH r hF
    simp only [Tr.data] at e
    cases e2 : datas l with
    | none => rw [e2] at e; cases e
    | some ds =>
      rw [e2] at e
      cases e
      exact .lst h (dps_of hF l xs ds e2 q)
  | .ob n, v, d, e, r => by cases e
  | .bor n, v, d, e, r => by cases e
theorem dps_of (hF : FLe F H) : ∀ (l : List Tr) (vs : List V) (ds : List PyData), datas l = some ds → Rps K F θ l vs → DpAll K H vs ds
  | [], vs, ds, e, r => by
    cases r
    simp only [datas] at e
    cases e
    exact .nil
  | t :: l, vs, ds, e, r => by
    cases r with
    | cons r1 r2 =>
      simp only [datas] at e
      cases e1 : t.data with
      | none => rw [e1] at e; cases e
      | some d =>
        cases e2 : datas l with
        | none => rw [e1, e2] at e; cases e
        | some ds' =>
          rw [e1, e2] at e
          cases e
          exact .cons (dp_of hF t _ d e1 (RpH.of hF r1)) (dps_of hF l _ ds' e2 r2)
end
theorem eqT_cases {x y : Tr} {b : Bool} (h : eqT x y = some b) : (∃ i j : Str, x = .str i ∧ y = .str j ∧ b = decide (i = j)) ∨ (∃ i j : Int, x = .int i ∧ y = .int j ∧ b = decide (i = j)) ∨ eqD x y = some b := by
  unfold eqT at h
  split at h
  · cases h; exact .inl ⟨_, _, rfl, rfl, rfl⟩
  · cases h; exact .inr (.inl ⟨_, _, rfl, rfl, rfl⟩)
  · exact .inr (.inr h)
theorem eqT_ok {x y : Tr} {b : Bool} (h : eqD x y = some b) : ∃ d e, x.data = some d ∧ y.data = some e ∧ SeqAt.shaped d = true ∧ SeqAt.shaped e = true ∧ b = PyData.eqv d e := by
  unfold eqD at h
  split at h
  · rename_i d e hd he
    split at h
    · rename_i hs
      rw [Bool.and_eq_true] at hs
      cases h
      exact ⟨d, e, hd, he, hs.1, hs.2, rfl⟩
    · cases h
  · cases h
theorem flat_ok {x : Tr} {v w : V} (h : flat x = some w) (r : RpH K F θ H x v) : v = w ∧ flatV v = true := by
  cases x with
  | non => cases h; cases nonH r; exact ⟨rfl, rfl⟩
  | bl b => cases h; cases blH r; exact ⟨rfl, rfl⟩
  | int b => cases h; cases intH r; exact ⟨rfl, rfl⟩
  | str b => cases h; cases strH r; exact ⟨rfl, rfl⟩
  | _ => cases h
theorem flats_ok (hF : FLe F H) : ∀ {l : List Tr} {vs ws : List V}, flats l = some ws → Rps K F θ l vs → vs = ws ∧ vs.all flatV = true
  | [], _, _, h, .nil => by cases h; exact ⟨rfl, rfl⟩
  | t :: l, _, _, h, .cons r1 r2 => by
    simp only [flats] at h
    cases e1 : flat t with
    | none => rw [e1] at h; cases h
    | some d =>
      cases e2 : flats l with
      | none => rw [e1, e2] at h; cases h
      | some ds' =>
        rw [e1, e2] at h
        cases h
        obtain ⟨rfl, f1⟩ := flat_ok e1 (RpH.of hF r1)
        obtain ⟨rfl, f2⟩ := flats_ok hF e2 r2
        exact ⟨rfl, by rw [List.all_cons, f1, f2]; rfl⟩
/-- a comparison's reading -/
def rCp (K : PySem.W.Frag) (x y : Tr) (b : Bool) : R2 := fun v w H Q => ∃ F θ, FLe F H ∧ RpH K F θ H x v ∧ RpH K F θ H y w ∧ Q (.bl b) H
theorem inT_ok {x y : Tr} {b : Bool} {v w : V} (hF : FLe F H) (h : inT x y = some b) (r1 : RpH K F θ H x v) (r2 : RpH K F θ H y w) :
    (∃ p xs, w = .ref p ∧ (SqL K H p xs ∨ SqT K H p xs) ∧ flatV v = true ∧ xs.all flatV = true ∧ b = inV v xs) ∨ ∃ i j, v = .str i ∧ w = .str j ∧ b = !(Builtin.Str.occurrences j i 0 j.length 1).isEmpty := by
  have go : ∀ {l : List Tr} {xs : List V} {a : Addr}, (match flat x, flats l with
      | some v, some vs => some (inV v vs)
      | _, _ => none) = some b → (SqL K H a xs ∨ SqT K H a xs) → Rps K F θ l xs → ∃ p xs, V.ref a = .ref p ∧ (SqL K H p xs ∨ SqT K H p xs) ∧ flatV v = true ∧ xs.all flatV = true ∧ b = inV v xs := by
    intro l xs a h q r
    split at h
    · rename_i v' vs' h1 h2
      cases h
      obtain ⟨rfl, f1⟩ := flat_ok h1 r1
      obtain ⟨rfl, f2⟩ := flats_ok hF h2 r
      exact ⟨a, _, rfl, q, f1, f2, rfl⟩
    · cases h
  cases y with
  | tup l =>
    obtain ⟨a, xs, rfl, q, r, _⟩ := tupH r2 hF
    exact .inl (go h (.inr q) r)
  | lst l =>
    obtain ⟨a, xs, rfl, q, r⟩ := r2
    exact .inl (go h (.inl (SqL.of q)) r)
  | flst l =>
    obtain ⟨a, xs, rfl, q, r⟩ := flstH r2 hF
    exact .inl (go h (.inl q) r)
  | str z =>
    cases strH r2
    simp only [inT] at h
    cases x with
    | str y =>
      cases strH r1
      cases h
      exact .inr ⟨y, z, rfl, rfl, rfl⟩
    | _ => cases h
  | _ => cases h
theorem map_some {α β : Type} {f : α → β} {o : Option α} {b : β} (h : o.map f = some b) : ∃ a, o = some a ∧ f a = b := by
  cases o with
  | none => cases h
  | some a => exact ⟨a, rfl, by simpa using h⟩
theorem opC_ok {X : Cx} {o : Cp} {x y : Tr} {b : Bool} (hu : X.A.units + 64 < cLine) (h : opC o x y = some b) : OpR X (compareOp o.py) (rCp X.K x y b) := by
  intro pins s0 σ0 H v w v' w' Q I rv rw ⟨F, θ, hF, r1, r2, k⟩
  unfold opC at h
  split at h
  · rcases eqT_cases h with ⟨i, j, rfl, rfl, rfl⟩ | ⟨i, j, rfl, rfl, rfl⟩ | h
    · cases strH r1
      cases strH r2
      exact op_eq pins s0 σ0 H _ _ _ _ Q I rv rw ⟨rfl, by simpa using k⟩
    · cases intH r1
      cases intH r2
      exact op_eq pins s0 σ0 H _ _ _ _ Q I rv rw ⟨rfl, by simpa using k⟩
    obtain ⟨d, e, h1, h2, h3, h4, rfl⟩ := eqT_ok h
    exact op_eqD hu pins s0 σ0 H _ _ _ _ Q I rv rw ⟨d, e, dp_of hF _ _ _ h1 r1, dp_of hF _ _ _ h2 r2, h3, h4, k⟩
  · obtain ⟨c, hc, rfl⟩ := map_some h
    rcases eqT_cases hc with ⟨i, j, rfl, rfl, rfl⟩ | ⟨i, j, rfl, rfl, rfl⟩ | hc
    · cases strH r1
      cases strH r2
      exact op_ne pins s0 σ0 H _ _ _ _ Q I rv rw ⟨rfl, by simpa using k⟩
    · cases intH r1
      cases intH r2
      exact op_ne pins s0 σ0 H _ _ _ _ Q I rv rw ⟨rfl, by simpa using k⟩
    obtain ⟨d, e, h1, h2, h3, h4, rfl⟩ := eqT_ok hc
    exact op_neD hu pins s0 σ0 H _ _ _ _ Q I rv rw ⟨d, e, dp_of hF _ _ _ h1 r1, dp_of hF _ _ _ h2 r2, h3, h4, k⟩
  · cases h; cases intH r1; cases intH r2
    exact op_lt pins s0 σ0 H _ _ _ _ Q I rv rw ⟨_, _, rfl, rfl, k⟩
  · cases h; cases intH r1; cases intH r2
    exact op_le pins s0 σ0 H _ _ _ _ Q I rv rw ⟨_, _, rfl, rfl, k⟩
  · cases h; cases intH r1; cases intH r2
    exact op_gt pins s0 σ0 H _ _ _ _ Q I rv rw ⟨_, _, rfl, rfl, k⟩
  · cases h; cases intH r1; cases intH r2
    exact op_ge pins s0 σ0 H _ _ _ _ Q I rv rw ⟨_, _, rfl, rfl, k⟩
  · cases nonH r2
    refine op_isN pins s0 σ0 H _ _ _ _ Q I rv rw ⟨rfl, ?_⟩
    have e : decide (v = V.non) = b := by
      cases x <;> first
        | (cases h; cases nonH r1; rfl)
        | (cases h; cases blH r1; rfl)
        | (cases h; cases intH r1; rfl)
        | (cases h; cases strH r1; rfl)
        | (cases h; obtain ⟨_, _, rfl, _⟩ := tupH r1 hF; rfl)
        | (cases h; obtain ⟨_, _, rfl, _⟩ := flstH r1 hF; rfl)
        | (cases h; obtain ⟨_, _, rfl, _⟩ := r1; rfl)
        | (cases h; exact r1.elim)
        | (cases h; have r' : Rp _ _ _ (Tr.ob _) _ := r1; cases r'; rfl)
    rw [e]
    exact k
  · cases nonH r2
    refine op_notN pins s0 σ0 H _ _ _ _ Q I rv rw ⟨rfl, ?_⟩
    have e : (!decide (v = V.non)) = b := by
      cases x <;> first
        | (cases h; cases nonH r1; rfl)
        | (cases h; cases blH r1; rfl)
        | (cases h; cases intH r1; rfl)
        | (cases h; cases strH r1; rfl)
        | (cases h; obtain ⟨_, _, rfl, _⟩ := tupH r1 hF; rfl)
        | (cases h; obtain ⟨_, _, rfl, _⟩ := flstH r1 hF; rfl)
        | (cases h; obtain ⟨_, _, rfl, _⟩ := r1; rfl)
        | (cases h; exact r1.elim)
        | (cases h; have r' : Rp _ _ _ (Tr.ob _) _ := r1; cases r'; rfl)
    rw [e]
    exact k
  · rcases inT_ok hF h r1 r2 with ⟨p, xs, rfl, q, f1, f2, rfl⟩ | ⟨i, j, rfl, rfl, rfl⟩
    · exact op_in_seq pins s0 σ0 H _ _ _ _ Q I rv rw ⟨p, xs, rfl, q, f1, f2, k⟩
    · exact op_in_str pins s0 σ0 H _ _ _ _ Q I rv rw ⟨i, j, rfl, rfl, k⟩
  · obtain ⟨c, hc, rfl⟩ := map_some h
    rcases inT_ok hF hc r1 r2 with ⟨p, xs, rfl, q, f1, f2, rfl⟩ | ⟨i, j, rfl, rfl, rfl⟩
    · exact op_notIn_seq pins s0 σ0 H _ _ _ _ Q I rv rw ⟨p, xs, rfl, q, f1, f2, k⟩
    · exact op_notin_str pins s0 σ0 H _ _ _ _ Q I rv rw ⟨i, j, rfl, rfl, k⟩
  · cases h
theorem data_nb {x : Tr} {d : PyData} (h : x.data = some d) : x.pure = true := by cases x <;> first | rfl | (exact nomatch h)
end Ev
/-! Defs that are called where no repr is under way: as FnOk, with that fact handed on. -/
namespace Ev
open PySem PySem.Spec L2
open PyProof.Rows hiding St

structure FnG (P : Program) (w : World) (K : PySem.W.Frag) (mg : Str → Option Value) (base : Heap) (k : Nat) (f : Addr) (fd : FuncData) (ps : List Str) (sp : Sp) : Prop where
  len : ∀ vs H Q E, sp vs H Q E → vs.length = ps.length
  run : ∀ (A : Around) (outer : List Env) (s : Shared) (H : Hp) (args : Args) (us : List Value) (vs : List V) (Q : VK) (E : XK), Room k A → A.guards = some [] → Env0 P w K mg base A outer s H →
    BindsTo s fd args (ps.zip us) → Vals vs us → sp vs H Q E → codeAny (model P w) A (.call (.ref f) args) (CR CX0 outer P w H s Q E) s
variable {P : Program} {w : World} {K : PySem.W.Frag} {mg : Str → Option Value} {base : Heap} {k : Nat} {f : Addr} {fd : FuncData} {ps N : List Str} {sp : Sp}
theorem FnG.mono {j : Nat} (F : FnG P w K mg base j f fd ps sp) (h : j ≤ k) : FnG P w K mg base k f fd ps sp :=
  ⟨F.len, fun A outer s H args us vs Q E hr => F.run A outer s H args us vs Q E (hr.mono h)⟩

theorem fnG {x qual : Str} {st : Stmt} (F : Fun K x qual st f fd) (S : FnScope N ps (defScope st)) (len : ∀ vs H Q E, sp vs H Q E → vs.length = ps.length)
    (hbody : ∀ (cdv : Value) (A : Around) (outer : List Env) (s : Shared) (H : Hp) (vs : List V) (Q : VK) (E : XK), Room k (A.deeper (envOfC qual (defScope st) s.heap.objs.size f cdv)) → A.guards = some [] → sp vs H Q E →
      ∃ t, PSs (cxOf CX0 P w K mg base N qual (defScope st) f cdv A outer s H E).nox (defBody st) t ∧ t { nx := fun _ H' => Q .non H', rt := Q } (start N vs) H) : FnG P w K mg base (k + 1) f fd ps sp := by
  obtain ⟨oc, od, kV, doc, pm, an, cdv, ct, osl, rfl, lk, hcd⟩ := F.ex
  refine ⟨len, fun A outer s H args us vs Q E hr hgd e0 hb r hsp => ?_⟩
  have KX : K.In s.heap := e0.mod.kin.keeps fun b o e => (e0.bs b o e).1
  have lim : s.heap.NoLimit := e0.mod.nolimit.keeps fun b o e => (e0.bs b o e).1
  have hkind : ∀ y ∈ ps.zip us, (defScope st).names.lookup y.1 = some .local ∨ ((defScope st).names.lookup y.1 = some .cell ∧ ((cellsFrom (s.heap.objs.size + 1) (defScope st).names []).lookup y.1).isSome = true) := by
    rintro ⟨n, v⟩ hy
    rcases S.par n (List.of_mem_zip hy).1 with q | q
    · exact .inl q
    · exact .inr ⟨q, PySem.W.cellsFrom_some _ _ _ (.inl q)⟩
  have hlen := len _ _ _ _ hsp
  refine codeAny_call_function hr.depth (KX _ _ lk) rfl S.co S.gen rfl (PySem.W.codeRec_of KX hcd) (hb _ _ _ _ ?_)
  refine wpAny_newFunctionEnv_cells S.kind hkind fun env he s1 x => ?_
  subst he
  refine ⟨lim.keeps x.toInCall.keep, codeAny_func ?_⟩
  obtain ⟨t, ht, hq⟩ := hbody cdv A outer s H vs Q E (hr.deeper _) hgd hsp
  have I : Inv (cxOf CX0 P w K mg base N qual (defScope st) f cdv A outer s H E) [] (start N vs) H s1 := inv_start S hr.hd e0 hlen r x
  refine wpAny_mono (ht.nox.run [] s1 (start N vs) H _ I hq) (fun fl s' hs => ?_) fun e s' hs => hs
  cases fl with
  | ret u =>
    obtain ⟨v, σ', H', J, rv, q⟩ := hs
    exact ⟨v, H', J.os, J.bare, J.base, J.hok, rv, q⟩
  | next =>
    obtain ⟨σ', H', J, q⟩ := hs
    exact ⟨V.non, H', J.os, J.bare, J.base, J.hok, rfl, q⟩
  | brk => exact hs.elim fun _ z => z.elim fun _ z => z.2.elim
  | cont => exact hs.elim fun _ z => z.elim fun _ z => z.2.elim

section
variable {X : Cx} {x : Str} {p pos : Pos} {e : Expr} {es : List Expr} {t : TA}
theorem run_fnG {pins : List (Addr × Obj)} {σ : St} {H : Hp} {s : Shared} {Q : VK} {us : List Value} {vs : List V} (F : FnG X.prog X.w X.K X.mg X.base k f fd ps sp) (hr : Room k X.A) (hgd : X.A.guards = some []) (hb : Binds X.K fd ps [])
    (I : Inv X pins σ H s) (r : Vals vs us) (h : sp vs H Q E0) : wpAny (model X.prog X.w) X.A (call (.ref f) us) (EP X pins σ Q) X.xe s := by
  have hl : (us ++ []).length = ps.length := by rw [List.append_nil, ← r.length]; exact F.len _ _ _ _ h
  have hbt := hb s us I.kIn hl
  rw [List.append_nil] at hbt
  refine wpAny_call (codeAny_mono (F.run X.A X.stack s H ⟨us, []⟩ us vs Q E0 hr hgd I.env0 hbt r h) fun rr s' hq => ?_)
  cases rr with
  | error e => exact False.elim hq
  | ok fl =>
    cases fl with
    | ret u => exact I.after hq
    | _ => exact False.elim hq
theorem pe_callG (F : FnG X.prog X.w X.K X.mg X.base k f fd ps sp) (hr : Room k X.A) (hgd : X.A.guards = some []) (hg : Gl X x) (hm : X.mg x = some (.ref f)) (hk : PySem.W.keepIn X.K (.ref f) = true) (hb : Binds X.K fd ps [])
    (ha : PA X (e :: es) t) (hdb : (x == ("__debug__" : Str)) = false) (he : starEach (e :: es) X.env = (false, eval e X.env) :: starEach es X.env) (hpl : (backTo pos (starEach es X.env)).any (·.1) = false) :
    PE X (.Call (.Name x p) (e :: es) [] pos) (tCall sp [] E0 t) := by
  refine ⟨fun pins s σ H Q I h => ?_⟩
  refine wpAny_Call_Name_kw (ld_glob I hg hm ?_ hdb)
  refine PySem.W.callWith_K (h₀ := X.base) I.ok.mod.kin hk (thn (ha.run pos pins s σ H _ I h) fun us s1 ⟨vs, H1, I1, r, q⟩ => ⟨I1.kIn, ?_⟩) he hpl
  replace q : sp (vs ++ []) H1 Q E0 := q
  rw [List.append_nil] at q
  exact run_fnG F hr hgd hb I1 r q
theorem pe_callG0 (F : FnG X.prog X.w X.K X.mg X.base k f fd ps sp) (hr : Room k X.A) (hgd : X.A.guards = some []) (hg : Gl X x) (hm : X.mg x = some (.ref f)) (hk : PySem.W.keepIn X.K (.ref f) = true) (hb : Binds X.K fd ps [])
    (hdb : (x == ("__debug__" : Str)) = false) : PE X (.Call (.Name x p) [] [] pos) (tCall sp [] E0 tNil) := by
  refine ⟨fun pins s σ H Q I h => ?_⟩
  refine wpAny_Call_Name_kw (ld_glob I hg hm ?_ hdb)
  exact PySem.W.callWith_K0 I.kIn hk (run_fnG (us := []) F hr hgd hb I .nil h)
end
end Ev
/-! Built-in functions by values. -/
namespace Ev
open PySem PySem.Spec L2
variable {K : PySem.W.Frag} {F F' G H : Hp} {θ θ' : List Addr} {s : Sta} {σ : St}

inductive RpHs (K : PySem.W.Frag) (F : Hp) (θ : List Addr) (H : Hp) : List Tr → List V → Prop
  | nil : RpHs K F θ H [] []
  | cons {t : Tr} {l : List Tr} {v : V} {vs : List V} : RpH K F θ H t v → RpHs K F θ H l vs → RpHs K F θ H (t :: l) (v :: vs)
def rBi (K : PySem.W.Frag) (ts : List Tr) (t : Tr) : List V → Hp → VK → Prop := fun vs H Q => ∃ F G θ s σ, Rel K F G θ s σ H ∧ RpHs K F θ H ts vs ∧ Fin K F G θ s σ t Q

theorem seqH (hF : FLe F H) {x : Tr} {l : List Tr} {v : V} (h : seqT x = some l) (r : RpH K F θ H x v) : ∃ a xs, v = .ref a ∧ (SqL K H a xs ∨ SqT K H a xs) ∧ Rps K F θ l xs := by
  cases x with
  | tup m => cases h; obtain ⟨a, xs, rfl, q, r, _⟩ := tupH r hF; exact ⟨a, xs, rfl, .inr q, r⟩
  | lst m => cases h; obtain ⟨a, xs, rfl, q, r⟩ := r; exact ⟨a, xs, rfl, .inl (SqL.of q), r⟩
  | flst m => cases h; obtain ⟨a, xs, rfl, q, r⟩ := flstH r hF; exact ⟨a, xs, rfl, .inl q, r⟩
  | _ => cases h
theorem intsOf_ok : ∀ {l : List Tr} {xs : List V} {is : List Int}, intsOf l = some is → Rps K F θ l xs → xs = is.map V.int
  | [], _, _, h, .nil => by simp only [intsOf] at h; cases h; rfl
  | t :: l, _, _, h, .cons r1 r2 => by
    cases t with
    | int i =>
      simp only [intsOf] at h
      cases e : intsOf l with
      | none => rw [e] at h; cases h
      | some is' =>
        rw [e] at h
        cases h
        cases r1
        rw [List.map_cons, intsOf_ok e r2]
    | _ => simp only [intsOf] at h; cases h
theorem boolsOf_ok : ∀ {l : List Tr} {xs : List V} {is : List Bool}, boolsOf l = some is → Rps K F θ l xs → xs = is.map V.bl
  | [], _, _, h, .nil => by simp only [boolsOf] at h; cases h; rfl
  | t :: l, _, _, h, .cons r1 r2 => by
    cases t with
    | bl i =>
      simp only [boolsOf] at h
      cases e : boolsOf l with
      | none => rw [e] at h; cases h
      | some is' =>
        rw [e] at h
        cases h
        cases r1
        rw [List.map_cons, boolsOf_ok e r2]
    | _ => simp only [boolsOf] at h; cases h

/-- repr of data -/
theorem call_reprD {X : Cx} (hg : X.A.guards = some []) (hu : X.A.units + 200 < cLine) : CallR X (.builtin "repr") (fun xs H Q => ∃ x d, xs = [x] ∧ Dp X.K H x d ∧ d.showable = true ∧ d.hasDict = false ∧ d.shown.length ≤ sizeLine ∧ d.depth ≤ 64 ∧ Q (.str d.shown) H) := by
  intro pins s σ H xs us Q I r h
  obtain ⟨x, d, rfl, hd, hs, hn, hz, h64, q⟩ := h
  obtain ⟨u, rfl, ru⟩ := vals1 r
  cases d with
  | none =>
    cases hd; cases ru
    exact PySem.P.repr_of_none ⟨.str _, H, I.tok _, ⟨_, rfl⟩, q⟩
  | bool b =>
    cases hd; cases ru
    exact PySem.P.repr_of_bool ⟨.str _, H, I.tok _, ⟨_, rfl⟩, by cases b <;> exact q⟩
  | int i =>
    cases hd; obtain ⟨t, rfl⟩ := ru
    exact PySem.P.repr_of_int (by simpa [PyData.showable] using hs) ⟨.str _, H, I.tok _, ⟨_, rfl⟩, q⟩
  | str z =>
    cases hd; obtain ⟨t, rfl⟩ := ru
    exact PySem.P.repr_of_str ⟨.str _, H, I.tok _, ⟨_, rfl⟩, q⟩ hz
  | dict kvs => cases hd
  | list ds =>
    obtain ⟨as, rd⟩ := Dp.reads I (.list ds) x u hd ru
    cases hd
    cases ru
    exact repr_of_reads' rd hs (PyData.noDict_hsm hn) hg (by omega) (fun _ _ e => e) (fun h' u tk hk => ⟨.str _, H, I.kept hk, ⟨_, rfl⟩, q⟩) hz
  | tuple ds =>
    obtain ⟨as, rd⟩ := Dp.reads I (.tuple ds) x u hd ru
    cases hd
    cases ru
    exact repr_of_reads' rd hs (PyData.noDict_hsm hn) hg (by omega) (fun _ _ e => e) (fun h' u tk hk => ⟨.str _, H, I.kept hk, ⟨_, rfl⟩, q⟩) hz
mutual
theorem data_noDict : ∀ (t : Tr) (d : PyData), t.data = some d → d.hasDict = false
  | .non, d, e => by cases e; rfl
  | .bl b, d, e => by cases e; rfl
  | .int i, d, e => by cases e; rfl
  | .str x, d, e => by cases e; rfl
  | .tup l, d, e => by
    simp only [Tr.data] at e
    cases e2 : datas l with
    | none => rw [e2] at e; cases e
    | some ds => rw [e2] at e; cases e; simpa only [PyData.hasDict] using datas_noDict l ds e2
  | .lst l, d, e => by
    simp only [Tr.data] at e
    cases e2 : datas l with
    | none => rw [e2] at e; cases e
    | some ds => rw [e2] at e; cases e; simpa only [PyData.hasDict] using datas_noDict l ds e2
  | .flst l, d, e => by
    simp only [Tr.data] at e
    cases e2 : datas l with
    | none => rw [e2] at e; cases e
    | some ds => rw [e2] at e; cases e; simpa only [PyData.hasDict] using datas_noDict l ds e2
  | .ob n, d, e => by cases e
  | .bor n, d, e => by cases e
theorem datas_noDict : ∀ (l : List Tr) (ds : List PyData), datas l = some ds → PyData.hasDictAll ds = false
  | [], ds, e => by simp only [datas] at e; cases e; rfl
  | t :: l, ds, e => by
    simp only [datas] at e
    cases e1 : t.data with
    | none => rw [e1] at e; cases e
    | some d =>
      cases e2 : datas l with
      | none => rw [e1, e2] at e; cases e
      | some ds' =>
        rw [e1, e2] at e
        cases e
        simp only [PyData.hasDictAll, data_noDict t d e1, datas_noDict l ds' e2]
        rfl
end

/-- the built-in by its name and value -/
def Bi.nm : Bi → Str
  | .len => "len" | .abs => "abs" | .int => "int" | .sum => "sum" | .max2 => "max" | .min2 => "min" | .listRg => "list" | .listOf => "list" | .tupOf => "tuple" | .all => "all" | .any => "any" | .repr => "repr"
  | .isInt => "isinstance" | .isBool => "isinstance" | .isStr => "isinstance" | .isTup => "isinstance"
def Bi.fnId : Bi → Option String
  | .len => some "len" | .abs => some "abs" | .sum => some "sum" | .max2 => some "max" | .min2 => some "min" | .all => some "all" | .any => some "any" | .repr => some "repr"
  | _ => none
def Bi.tyId : Bi → Option String
  | .int => some "int" | .listOf => some "list" | .tupOf => some "tuple"
  | _ => none
theorem fn_boot {b : Bi} {id : String} (h : b.fnId = some id) : bootBuiltins b.nm = some (.builtin id) := by
  cases b <;> cases h <;> decide +kernel
theorem ty_boot {b : Bi} {id : String} (h : b.tyId = some id) : bootBuiltins b.nm = some (.type id) := by
  cases b <;> cases h <;> decide +kernel
theorem nm_ne (b : Bi) : b.nm ≠ "__name__" := by cases b <;> decide +kernel
theorem nm_db (b : Bi) : (b.nm == ("__debug__" : Str)) = false := by cases b <;> decide +kernel

theorem biT_fn {X : Cx} {b : Bi} {ts : List Tr} {t : Tr} {id : String} (hc : X.calm = true) (hg : X.A.guards = some []) (hu : X.A.units + 200 < cLine) (hid : b.fnId = some id) (h : biT b ts = some t) : CallR X (.builtin id) (rBi X.K ts t) := by
  intro pins s0 σ0 H vs us Q I rv ⟨F, G, θ, s, σ, R, rs, k⟩
  have hF := R.m.fle
  unfold biT at h
  split at h <;> first | (cases h; done) | cases hid
  · cases h
    cases rs with
    | cons r1 r2 => cases r2; obtain ⟨a, xs, rfl, q, r, _⟩ := tupH r1 hF; exact call_len_seq pins s0 σ0 H _ _ Q I rv ⟨a, xs, rfl, .inr q, k.same R (by rw [r.length]; exact .int _)⟩
  · cases h
    cases rs with
    | cons r1 r2 => cases r2; obtain ⟨a, xs, rfl, q, r⟩ := r1; exact call_len_seq pins s0 σ0 H _ _ Q I rv ⟨a, xs, rfl, .inl (SqL.of q), k.same R (by rw [r.length]; exact .int _)⟩
  · cases h
    cases rs with
    | cons r1 r2 => cases r2; obtain ⟨a, xs, rfl, q, r⟩ := flstH r1 hF; exact call_len_seq pins s0 σ0 H _ _ Q I rv ⟨a, xs, rfl, .inl q, k.same R (by rw [r.length]; exact .int _)⟩
  · split at h
    · cases h
      cases rs with
      | cons r1 r2 => cases r2; cases strH r1; exact call_len_str pins s0 σ0 H _ _ Q I rv ⟨_, rfl, by assumption, k.same R (.int _)⟩
    · cases h
  · cases h
    cases rs with
    | cons r1 r2 => cases r2; cases intH r1; exact call_abs pins s0 σ0 H _ _ Q I rv ⟨_, rfl, k.same R (.int _)⟩
  · obtain ⟨is, h9, rfl⟩ := map_some h
    cases rs with
    | cons r1 r2 =>
      cases r2
      obtain ⟨a, xs, rfl, q, r⟩ := r1
      obtain rfl := intsOf_ok h9 r
      exact cr_sum hc pins s0 σ0 H _ _ Q I rv ⟨a, is, rfl, SqL.of q, k.same R (.int _)⟩
  · obtain ⟨is, h9, rfl⟩ := map_some h
    cases rs with
    | cons r1 r2 =>
      cases r2
      obtain ⟨a, xs, rfl, q, r⟩ := flstH r1 hF
      obtain rfl := intsOf_ok h9 r
      exact cr_sum hc pins s0 σ0 H _ _ Q I rv ⟨a, is, rfl, q, k.same R (.int _)⟩
  · cases h
    cases rs with
    | cons r1 r2 =>
      cases r2 with
      | cons r2 r3 =>
        cases r3; cases intH r1; cases intH r2
        exact call_max2 hc pins s0 σ0 H _ _ Q I rv ⟨_, _, rfl, k.same R (.int _)⟩
  · cases h
    cases rs with
    | cons r1 r2 =>
      cases r2 with
      | cons r2 r3 =>
        cases r3; cases intH r1; cases intH r2
        exact call_min2 hc pins s0 σ0 H _ _ Q I rv ⟨_, _, rfl, k.same R (.int _)⟩
  · obtain ⟨is, h9, rfl⟩ := map_some h
    cases rs with
    | cons r1 r2 =>
      cases r2
      obtain ⟨a, xs, rfl, q, r⟩ := r1
      obtain rfl := boolsOf_ok h9 r
      exact cr_all hc pins s0 σ0 H _ _ Q I rv ⟨a, is, rfl, SqL.of q, k.same R (.bl _)⟩
  · obtain ⟨is, h9, rfl⟩ := map_some h
    cases rs with
    | cons r1 r2 =>
      cases r2
      obtain ⟨a, xs, rfl, q, r⟩ := r1
      obtain rfl := boolsOf_ok h9 r
      exact cr_any hc pins s0 σ0 H _ _ Q I rv ⟨a, is, rfl, SqL.of q, k.same R (.bl _)⟩
  · unfold reprT at h
    split at h
    · rename_i d hd
      split at h
      · rename_i hh
        simp only [Bool.and_eq_true, decide_eq_true_eq] at hh
        cases h
        cases rs with
        | cons r1 r2 =>
          cases r2
          exact call_reprD hg hu pins s0 σ0 H _ _ Q I rv ⟨_, d, rfl, dp_of hF _ _ _ hd r1, hh.1.1, data_noDict _ _ hd, hh.1.2, hh.2, k.same R (.str _)⟩
      · cases h
    · cases h
theorem biT_ty {X : Cx} {b : Bi} {ts : List Tr} {t : Tr} {id : String} (hid : b.tyId = some id) (h : biT b ts = some t) : CallR X (.type id) (rBi X.K ts t) := by
  intro pins s0 σ0 H vs us Q I rv ⟨F, G, θ, s, σ, R, rs, k⟩
  have hF := R.m.fle
  unfold biT at h
  split at h <;> first | (cases h; done) | cases hid
  · cases h
    cases rs with
    | cons r1 r2 => cases r2; cases intH r1; exact call_int1 pins s0 σ0 H _ _ Q I rv (.inl ⟨_, rfl, k.same R (.int _)⟩)
  · cases h
    cases rs with
    | cons r1 r2 => cases r2; cases blH r1; exact call_int1 pins s0 σ0 H _ _ Q I rv (.inr ⟨_, rfl, k.same R (.int _)⟩)
  · cases h
    cases rs with
    | cons r1 r2 => cases r2; obtain ⟨a, xs, rfl, q, r, _⟩ := tupH r1 hF; exact call_list_of pins s0 σ0 H _ _ Q I rv ⟨a, xs, rfl, .inr q, fun l hl => k.lst R hl r⟩
  · cases h
    cases rs with
    | cons r1 r2 => cases r2; obtain ⟨a, xs, rfl, q, r⟩ := r1; exact call_list_of pins s0 σ0 H _ _ Q I rv ⟨a, xs, rfl, .inl (SqL.of q), fun l hl => k.lst R hl r⟩
  · cases h
    cases rs with
    | cons r1 r2 => cases r2; obtain ⟨a, xs, rfl, q, r⟩ := flstH r1 hF; exact call_list_of pins s0 σ0 H _ _ Q I rv ⟨a, xs, rfl, .inl q, fun l hl => k.lst R hl r⟩
  · cases h
    cases rs with
    | cons r1 r2 => cases r2; obtain ⟨a, xs, rfl, q, r, f⟩ := tupH r1 hF; exact call_tuple_of pins s0 σ0 H _ _ Q I rv ⟨a, xs, rfl, .inr ⟨q, k.same R (.tup f r)⟩⟩
  · cases h
    cases rs with
    | cons r1 r2 => cases r2; obtain ⟨a, xs, rfl, q, r⟩ := r1; exact call_tuple_of pins s0 σ0 H _ _ Q I rv ⟨a, xs, rfl, .inl ⟨SqL.of q, fun l hl => k.tup R hl r⟩⟩
  · cases h
    cases rs with
    | cons r1 r2 => cases r2; obtain ⟨a, xs, rfl, q, r⟩ := flstH r1 hF; exact call_tuple_of pins s0 σ0 H _ _ Q I rv ⟨a, xs, rfl, .inl ⟨q, fun l hl => k.tup R hl r⟩⟩
/-- isinstance(x, a built-in type) -/
def Bi.isTy : Bi → Option String
  | .isInt => some "int" | .isBool => some "bool" | .isStr => some "str" | .isTup => some "tuple"
  | _ => none
theorem biT_is {X : Cx} {b : Bi} {x t : Tr} {id : String} (hid : b.isTy = some id) (h : biT b [x] = some t) : CallR X (.builtin "isinstance") (fun vs H Q => ∃ v, vs = [v, .ty id] ∧ rBi X.K [x] t [v] H Q) := by
  intro pins s0 σ0 H vs us Q I rv ⟨v, e, F, G, θ, s, σ, R, rs, k⟩
  subst e
  have hF := R.m.fle
  have ty : ∀ {a : Addr} {xs : List V}, SqT X.K H a xs → TyX X.K H (.ref a) (.type "tuple") := by
    intro a xs q
    rcases q with (q | ⟨o, q⟩) | ⟨o, its, n, q, c, _⟩
    · exact .base (.tup q)
    · exact .fTuple q
    · exact .kTuple q c
  cases rs with
  | cons r1 r2 =>
    cases r2
    have go : ∀ (tn : String) (bb : Bool), TyX X.K H v (.type tn) → PySem.W.kitOne X.K (.type tn) (.type id) = some bb → t = .bl bb → wpAny (model X.prog X.w) X.A (call (.builtin "isinstance") us) (EP X pins σ0 Q) X.xe s0 := by
      intro tn bb h1 h2 h3
      subst h3
      exact call_isi pins s0 σ0 H _ _ Q I rv ⟨v, .ty id, .type tn, .type id, bb, rfl, .ty id, h1, h2, k.same R (.bl _)⟩
    cases b <;> cases hid
    all_goals
      cases x with
      | non => cases h; cases nonH r1; exact go "NoneType" _ (.base .non) (kit_ty (by decide +kernel)) rfl
      | bl y => cases h; cases blH r1; exact go "bool" _ (.base (.bl _)) (kit_ty (by decide +kernel)) rfl
      | int y => cases h; cases intH r1; exact go "int" _ (.base (.int _)) (kit_ty (by decide +kernel)) rfl
      | str y => cases h; cases strH r1; exact go "str" _ (.base (.str _)) (kit_ty (by decide +kernel)) rfl
      | tup y => cases h; obtain ⟨a, xs, rfl, q, r, _⟩ := tupH r1 hF; exact go "tuple" _ (ty q) (kit_ty (by decide +kernel)) rfl
      | lst y => cases h; obtain ⟨a, xs, rfl, q, r⟩ := r1; exact go "list" _ (.base (.lst q)) (kit_ty (by decide +kernel)) rfl
      | flst y => cases h
      | ob y => cases h
      | bor y => cases h
end Ev
/-! The checker, the canonical readings, what stands around a call. -/
namespace Ev
open PySem PySem.Spec L2
variable {K : PySem.W.Frag} {F F' G H : Hp} {θ θ' : List Addr} {s : Sta} {σ : St}

/-! ### the checker: the given program's text against our own -/
structure Ds where
  fns : List Str
  gls : List Str
  blts : List Str
  pars : List (List Str)
def isStar : Expr → Bool
  | .Starred .. => true
  | _ => false
def isSetE : Expr → Bool
  | .Set .. => true
  | _ => false
mutual
/-- a target's names lie among these -/
def tgIn (vs : List Nat) : Tg → Bool
  | .nm i => vs.contains i
  | .tp gs => tgsIn vs gs
def tgsIn (vs : List Nat) : List Tg → Bool
  | [] => true
  | g :: gs => tgIn vs g && tgsIn vs gs
end
def isSlice : Expr → Bool
  | .Slice .. => true
  | _ => false
def visB (sc : Scope) (x : Str) : Bool := match sc.names.lookup x with
  | some .local => true
  | some .cell => true
  | some .free => true
  | _ => false
def locB (sc : Scope) (x : Str) : Bool := match sc.names.lookup x with
  | some .local => true
  | some .cell => true
  | _ => false
def glB (sc : Scope) (x : Str) : Bool := match sc.names.lookup x with
  | some .globalImplicit => true
  | _ => false
def okN (x : Str) : Bool := !(x == ("__debug__" : Str)) && !(x == ("__classdict__" : Str))
mutual
def chkT (N : List Str) (sc : Scope) : Tg → Expr → Bool
  | .nm i, ex => match ex with
    | .Name x _ => decide (N[i]? = some x) && locB sc x
    | _ => false
  | .tp gs, ex => match ex with
    | .Tuple es _ _ => chkTs N sc gs es
    | _ => false
def chkTs (N : List Str) (sc : Scope) : List Tg → List Expr → Bool
  | [], es => match es with
    | [] => true
    | _ => false
  | g :: gs, es => match es with
    | e :: es => !isStar e && chkT N sc g e && chkTs N sc gs es
    | _ => false
end
def isTp : Tg → Bool
  | .tp _ => true
  | _ => false
def blB (D : Ds) (sc : Scope) (x y : Str) : Bool := decide (x = y) && glB sc x && decide (x ∈ D.blts)
mutual
def chk (D : Ds) (N : List Str) (sc : Scope) : Ex → Expr → Bool
  | .var i, ex => match ex with
    | .Name x _ => decide (N[i]? = some x) && visB sc x && okN x
    | _ => false
  | .mv i, ex => match ex with
    | .Name x _ => decide (N[i]? = some x) && visB sc x && okN x
    | _ => false
  | .gl k, ex => match ex with
    | .Name x _ => decide (D.gls[k]? = some x) && glB sc x && okN x
    | _ => false
  | .int i, ex => match ex with
    | .Constant (.int j) _ _ => decide (i = j)
    | _ => false
  | .str z, ex => match ex with
    | .Constant (.str y) _ _ => decide (z = y)
    | _ => false
  | .bl b, ex => match ex with
    | .Constant (.bool c) _ _ => decide (b = c)
    | _ => false
  | .non, ex => match ex with
    | .Constant .none _ _ => true
    | _ => false
  | .nul, _ => false
  | .tup es, ex => match ex with
    | .Tuple xs _ _ => chks D N sc es xs
    | _ => false
  | .lst es, ex => match ex with
    | .List xs _ => chks D N sc es xs
    | _ => false
  | .shd es, ex => match ex with
    | .List xs _ => chks D N sc es xs
    | _ => false
  | .bin o a b, ex => match ex with
    | .BinOp x op y _ => decide (op = o.py) && chk D N sc a x && chk D N sc b y
    | _ => false
  | .neg a, ex => match ex with
    | .UnaryOp .USub x _ => chk D N sc a x
    | _ => false
  | .cmp o a b, ex => match ex with
    | .Compare x [op] [y] _ => decide (op = o.py) && chk D N sc a x && chk D N sc b y && !behindInMarks op y
    | _ => false
  | .chain o p a b c, ex => match ex with
    | .Compare x [op, op'] [y, z] _ => decide (op = o.py) && decide (op' = p.py) && chk D N sc a x && chk D N sc b y && chk D N sc c z && !behindInMarks op' z
    | _ => false
  | .and_ a b, ex => match ex with
    | .BoolOp .And (x :: y :: r) p => chk D N sc a x && (match r with
      | [] => chk D N sc b y
      | _ => chk D N sc b (.BoolOp .And (y :: r) p))
    | _ => false
  | .or_ a b, ex => match ex with
    | .BoolOp .Or (x :: y :: r) p => chk D N sc a x && (match r with
      | [] => chk D N sc b y
      | _ => chk D N sc b (.BoolOp .Or (y :: r) p))
    | _ => false
  | .not_ a, ex => match ex with
    | .UnaryOp .Not x _ => chk D N sc a x
    | _ => false
  | .ite c a b, ex => match ex with
    | .IfExp t x y _ => chk D N sc c t && chk D N sc a x && chk D N sc b y
    | _ => false
  | .idx a b, ex => match ex with
    | .Subscript x y _ => !isSlice y && chk D N sc a x && chk D N sc b y
    | _ => false
  | .sl a lo hi, ex => match ex with
    | .Subscript x (.Slice l h none _) _ => chk D N sc a x && (match l with
      | none => isNul lo
      | some l => !isNul lo && chk D N sc lo l) && (match h with
      | none => isNul hi
      | some h => !isNul hi && chk D N sc hi h)
    | _ => false
  | .rev a, ex => match ex with
    | .Subscript x (.Slice none none (some (.UnaryOp .USub (.Constant (.int 1) _ _) _)) _) _ => chk D N sc a x
    | _ => false
  | .call f es, ex => match ex with
    | .Call (.Name x _) xs [] _ => decide (D.fns[f]? = some x) && glB sc x && okN x && chks D N sc es xs
    | _ => false
  | .bi b es, ex => match ex with
    | .Call (.Name x _) xs [] _ => blB D sc x b.nm && (match b with
      | .listRg => (match xs with
        | [.Call (.Name y _) ys [] _] => blB D sc y "range" && chks D N sc es ys && decide (ys.length = 1)
        | _ => false)
      | .isInt => (match xs with
        | [z, .Name y _] => chks D N sc es [z] && blB D sc y "int"
        | _ => false)
      | .isBool => (match xs with
        | [z, .Name y _] => chks D N sc es [z] && blB D sc y "bool"
        | _ => false)
      | .isStr => (match xs with
        | [z, .Name y _] => chks D N sc es [z] && blB D sc y "str"
        | _ => false)
      | .isTup => (match xs with
        | [z, .Name y _] => chks D N sc es [z] && blB D sc y "tuple"
        | _ => false)
      | _ => chks D N sc es xs)
    | _ => false
  | .pop i, ex => match ex with
    | .Call (.Attribute (.Name x _) m ap) [] [] p => decide (m = ("pop" : Str)) && decide (N[i]? = some x) && visB sc x && okN x && (ap.endLine == p.line)
    | _ => false
  | .comp k elt tg its cond own, ex => match ex with
    | .ListComp e' [⟨tg', iter, ifs, 0⟩] scope _ => !isSetE iter && tgIn own tg && blkC N sc scope (own.map fun i => (N.getD i "", i)) && chk D N scope elt e' && chkT N scope tg tg' && (match ifs with
      | [] => isNul cond
      | [c] => !isNul cond && chk D N scope cond c
      | _ => false) && (match k with
      | 0 => chks D N sc its [iter]
      | 1 => (match iter with
        | .Call (.Name y _) ys [] _ => blB D sc y "range" && chks D N sc its ys && decide (ys.length = 1)
        | _ => false)
      | 2 => (match iter with
        | .Call (.Name y _) ys [] _ => blB D sc y "range" && chks D N sc its ys && decide (ys.length = 2)
        | _ => false)
      | 3 => isTp tg && (match iter with
        | .Call (.Name y _) ys [] _ => blB D sc y "enumerate" && chks D N sc its ys && decide (ys.length = 1)
        | _ => false)
      | 4 => isTp tg && (match iter with
        | .Call (.Name y _) ys [] _ => blB D sc y "zip" && chks D N sc its ys && decide (ys.length = 2)
        | _ => false)
      | _ => false)
    | _ => false
  | .bad, _ => true
  | .disp k bs es, ex => match k with
    | 0 => (match ex with
      | .Tuple xs _ _ => chkSt D N sc es bs xs
      | _ => false)
    | _ => (match ex with
      | .List xs _ => chkSt D N sc es bs xs
      | _ => false)
  | .callK f es ks, ex => match ex with
    | .Call (.Name x _) xs kws _ => decide (D.fns[f]? = some x) && glB sc x && okN x && chks D N sc es xs && (match D.pars[f]? with
      | some ps => chkK D N sc ks (ps.drop es.length) kws
      | none => false)
    | _ => false
def chkSt (D : Ds) (N : List Str) (sc : Scope) : List Ex → List Bool → List Expr → Bool
  | [], _, xs => match xs with
    | [] => true
    | _ => false
  | e :: es, bs, xs => match xs with
    | x :: xs => (if bs.headD false then (match x with
      | .Starred y _ => chk D N sc e y
      | _ => false) else !isStar x && chk D N sc e x) && chkSt D N sc es bs.tail xs
    | _ => false
def chkK (D : Ds) (N : List Str) (sc : Scope) : List Ex → List Str → List Keyword → Bool
  | [], ps, kws => match ps with
    | [] => (match kws with
      | [] => true
      | _ => false)
    | _ => false
  | e :: es, ps, kws => match ps with
    | p :: ps => (match kws with
      | ⟨some nm, x, _⟩ :: kws => decide (nm = p) && chk D N sc e x && chkK D N sc es ps kws
      | _ => false)
    | _ => false
def chks (D : Ds) (N : List Str) (sc : Scope) : List Ex → List Expr → Bool
  | [], xs => match xs with
    | [] => true
    | _ => false
  | e :: es, xs => match xs with
    | x :: xs => !isStar x && chk D N sc e x && chks D N sc es xs
    | _ => false
end

/-! ### canonical readings -/
section
variable (gc : List Tr) (cf : CF)
def RE (K : PySem.W.Frag) (e : Ex) : TE := fun σ H Q => ∃ F G θ s t s', Rel K F G θ s σ H ∧ evX gc cf e false s = .ok t s' ∧ ∀ v H' F' θ', Rel K F' G θ' s' σ H' → FLe F F' → θ <+: θ' → RpV K F' θ' σ t v → Q v H'
def RT (K : PySem.W.Frag) (e : Ex) : TT := fun σ H Q => ∃ F G θ s b s', Rel K F G θ s σ H ∧ evX gc cf e true s = .ok (.bl b) s' ∧ ∀ H' F' θ', Rel K F' G θ' s' σ H' → FLe F F' → θ <+: θ' → Q b H'
inductive RpVs (K : PySem.W.Frag) (F : Hp) (θ : List Addr) (σ : St) : List Tr → List V → Prop
  | nil : RpVs K F θ σ [] []
  | cons {t : Tr} {l : List Tr} {v : V} {vs : List V} : RpV K F θ σ t v → RpVs K F θ σ l vs → RpVs K F θ σ (t :: l) (v :: vs)
def RA (K : PySem.W.Frag) (es : List Ex) : TA := fun σ H Q => ∃ F G θ s ts s', Rel K F G θ s σ H ∧ evEs gc cf es s = .ok ts s' ∧ ∀ vs H' F' θ', Rel K F' G θ' s' σ H' → FLe F F' → θ <+: θ' → RpVs K F' θ' σ ts vs → Q vs H'
end
theorem RpVs.rps : ∀ {ts : List Tr} {vs : List V}, RpVs K F θ σ ts vs → ts.all Tr.pure = true → Rps K F θ ts vs
  | _, _, .nil, _ => .nil
  | _, _, .cons r s, h => by
    rw [List.all_cons, Bool.and_eq_true] at h
    exact .cons (r.rp h.1) (s.rps h.2)
/-- a call's promise by the evaluator -/
def SpE (K : PySem.W.Frag) (cf : CF) (f n : Nat) : Sp := fun vs H Q _ => vs.length = n ∧ ∃ F G θ ts m t m', RelM K F G θ m H ∧ Rps K F θ ts vs ∧ cf f ts m = some (t, m') ∧ ∀ v H' F' θ', RelM K F' G θ' m' H' → FLe F F' → θ <+: θ' → Rp K F' θ' t v → Q v H'

def KB (K : PySem.W.Frag) (fd : FuncData) (ps : List Str) : Prop := ∀ (s : Shared) (us ws : List Value), K.In s.heap → (us ++ ws).length = ps.length → BindsTo s fd ⟨us, (ps.drop us.length).zip ws⟩ (ps.zip (us ++ ws))
theorem KB.binds {K : PySem.W.Frag} {fd : FuncData} {ps : List Str} (h : KB K fd ps) : Binds K fd ps [] := fun s us hk hl => by
  have := h s us [] hk hl
  rw [List.zip_nil_right] at this
  exact this
structure Cxt (D : Ds) (gc : List Tr) (cf : CF) (X : Cx) (sc : Scope) : Prop where
  nd : X.N.Nodup
  calm : X.calm = true
  gd : X.A.guards = some []
  xe : X.xe = fun _ _ => False
  vis : ∀ x, visB sc x = true → Vis X.env.scope x
  loc : ∀ x, locB sc x = true → Loc X.env.scope x ∧ (X.fn x = true ∨ X.env.scope.names.lookup x = some .local)
  glo : ∀ x, glB sc x = true → Gl X x
  blk : ∀ scope own, blkC X.N sc scope own = true → BlkOk X.N X.env.scope scope own
  gl : ∀ (k : Nat) t x, gc[k]? = some t → D.gls[k]? = some x → ∃ v u, X.mg x = some u ∧ RelV v u ∧ Rp X.K (fun _ => none) [] t v
  blt : ∀ x ∈ D.blts, X.mg x = none
  un : X.A.units + 200 < cLine
  fn : ∀ (f : Nat) x, D.fns[f]? = some x → ∀ ts m r, cf f ts m = some r → ∃ (fa : Addr) (fd : FuncData) (ps : List Str) (k : Nat), D.pars[f]? = some ps ∧ X.mg x = some (.ref fa) ∧ PySem.W.keepIn X.K (.ref fa) = true ∧ KB X.K fd ps ∧ Room k X.A ∧
    FnG X.prog X.w X.K X.mg X.base k fa fd ps (SpE X.K cf f ps.length) ∧ ts.length = ps.length

/-! ### out and back: around a call, a block -/
open Classical in
/-- what a callee may not touch -/
noncomputable def ownG (s : Sta) (σ : St) (G H : Hp) : Hp := fun a => if ∃ (i : Nat) (l : List Tr), s.env[i]? = some (Slot.own l) ∧ σ[i]? = some (some (V.ref a)) then H a else G a
theorem ownG_of {a : Addr} {i : Nat} {l : List Tr} (h : s.env[i]? = some (.own l)) (h' : σ[i]? = some (some (V.ref a))) : ownG s σ G H a = H a := by
  unfold ownG
  rw [if_pos ⟨i, l, h, h'⟩]
theorem ownG_not {a : Addr} (h : ¬ ∃ (i : Nat) (l : List Tr), s.env[i]? = some (Slot.own l) ∧ σ[i]? = some (some (V.ref a))) : ownG s σ G H a = G a := by
  unfold ownG
  rw [if_neg h]
theorem Rel.gG (R : Rel K F G θ s σ H) : FLe G (ownG s σ G H) := fun a o e => by
  by_cases h : ∃ (i : Nat) (l : List Tr), s.env[i]? = some (Slot.own l) ∧ σ[i]? = some (some (V.ref a))
  · obtain ⟨i, l, h1, h2⟩ := h
    rw [ownG_of h1 h2]
    exact R.m.gle a o e
  · rw [ownG_not h]
    exact e
theorem Rel.ownAt (R : Rel K F G θ s σ H) {a : Addr} {i : Nat} {l : List Tr} (h : s.env[i]? = some (.own l)) (h' : σ[i]? = some (some (V.ref a))) : ∃ xs, H a = some (.lst xs) ∧ F a = none ∧ G a = none ∧ a ∉ θ ∧ Rps K F θ l xs := by
  obtain ⟨b, xs, e, q⟩ := R.slot i _ h
  rw [h'] at e
  cases e
  exact ⟨xs, q⟩
theorem Rel.out (R : Rel K F G θ s σ H) : RelM K F (ownG s σ G H) θ s.mem H := by
  refine ⟨R.m.fle, fun a o e => ?_, fun a o e => ?_, R.m.len, R.m.nd, fun n o e => ?_⟩
  · by_cases h : ∃ (i : Nat) (l : List Tr), s.env[i]? = some (Slot.own l) ∧ σ[i]? = some (some (V.ref a))
    · obtain ⟨i, l, h1, h2⟩ := h
      rw [ownG_of h1 h2] at e
      exact e
    · rw [ownG_not h] at e
      exact R.m.gle a o e
  · by_cases h : ∃ (i : Nat) (l : List Tr), s.env[i]? = some (Slot.own l) ∧ σ[i]? = some (some (V.ref a))
    · obtain ⟨i, l, h1, h2⟩ := h
      obtain ⟨xs, _, f, _⟩ := R.ownAt h1 h2
      exact f
    · rw [ownG_not h] at e
      exact R.m.fg a o e
  · obtain ⟨a, h1, h2, h3, h4⟩ := R.m.ob n o e
    refine ⟨a, h1, h2, ?_, h4⟩
    have : ¬ ∃ (i : Nat) (l : List Tr), s.env[i]? = some (Slot.own l) ∧ σ[i]? = some (some (V.ref a)) := by
      rintro ⟨i, l, q1, q2⟩
      obtain ⟨xs, _, _, _, f, _⟩ := R.ownAt q1 q2
      exact f (List.mem_of_getElem? h1)
    rw [ownG_not this]
    exact h3
theorem Rel.back (R : Rel K F G θ s σ H) {m' : List Ob} {H' : Hp} (M : RelM K F' (ownG s σ G H) θ' m' H') (hF : FLe F F') (hθ : θ <+: θ') : Rel K F' G θ' ⟨s.env, m'⟩ σ H' := by
  have gG := R.gG
  have dom : ∀ a, F' a = none ∨ ownG s σ G H a = none := fun a => by
    cases e : ownG s σ G H a with
    | none => exact .inr rfl
    | some o => exact .inl (M.fg a o e)
  have thG : ∀ a o, ownG s σ G H a = some o → a ∉ θ' := fun a o e hm => by
    obtain ⟨n, hn⟩ := List.getElem?_of_mem hm
    have hlt : n < θ'.length := (List.getElem?_eq_some_iff.mp hn).1
    obtain ⟨b, q1, q2, q3, _⟩ := M.ob n (m'[n]'(by rw [M.len]; exact hlt)) (by simp)
    rw [hn] at q1
    cases q1
    rw [e] at q3
    cases q3
  refine ⟨⟨M.fle, gG.trans M.gle, fun a o e => M.fg a o (gG a o e), M.len, M.nd, fun n o e => ?_⟩, R.len, fun i x e => ?_, R.dis⟩
  · obtain ⟨a, h1, h2, h3, h4⟩ := M.ob n o e
    exact ⟨a, h1, h2, gG.none h3, h4⟩
  · have r := R.slot i x e
    cases x with
    | none => exact r
    | val t => obtain ⟨y, e1, q⟩ := r; exact ⟨y, e1, q.mono hF hθ⟩
    | own l =>
      obtain ⟨a, xs, e1, h, f, g, t, q⟩ := r
      have eo : ownG s σ G H a = some (.lst xs) := (ownG_of (s := s) e e1).trans h
      exact ⟨a, xs, e1, M.gle a _ eo, M.fg a _ eo, g, thG a _ eo, q.mono hF hθ⟩
end Ev
/-! Soundness of expressions, part 1: the parts. -/
namespace Ev
open PySem PySem.Spec L2
variable {K : PySem.W.Frag} {F F' G H : Hp} {θ θ' : List Addr} {s : Sta} {σ : St}

theorem and2 {a b : Bool} (h : (a && b) = true) : a = true ∧ b = true := by simpa using h
theorem visB_ok {sc : Scope} {x : Str} (h : visB sc x = true) : Vis sc x := by
  unfold visB at h
  split at h
  · exact .inl (by assumption)
  · exact .inr (.inl (by assumption))
  · exact .inr (.inr (by assumption))
  · cases h
theorem locB_ok {sc : Scope} {x : Str} (h : locB sc x = true) : Loc sc x := by
  unfold locB at h
  split at h
  · exact .inl (by assumption)
  · exact .inr (by assumption)
  · cases h
theorem glB_ok {X : Cx} {x : Str} (h : glB X.env.scope x = true) : Gl X x := by
  unfold glB at h
  split at h
  · assumption
  · cases h
theorem okN_ok {x : Str} (h : okN x = true) : (x == ("__debug__" : Str)) = false ∧ (x == ("__classdict__" : Str)) = false := by
  unfold okN at h
  obtain ⟨h1, h2⟩ := and2 h
  exact ⟨by simpa using h1, by simpa using h2⟩
theorem star_cons {e : Expr} {es : List Expr} {env : Env} (h : isStar e = false) : starEach (e :: es) env = (false, eval e env) :: starEach es env := by
  cases e <;> first | rfl | (exact nomatch h)
theorem chks_plain {D : Ds} {N : List Str} {sc : Scope} {env : Env} {pos : Pos} : ∀ {es : List Ex} {xs : List Expr}, chks D N sc es xs = true → (backTo pos (starEach xs env)).any (·.1) = false
  | [], xs, h => by
    cases xs with
    | nil => rfl
    | cons _ _ => exact nomatch h
  | e :: es, xs, h => by
    cases xs with
    | nil => exact nomatch h
    | cons x xs =>
      simp only [chks] at h
      obtain ⟨h1, h2⟩ := and2 h
      obtain ⟨h1, h3⟩ := and2 h1
      rw [star_cons (by simpa using h1)]
      have := chks_plain (env := env) (pos := pos) h2
      show (false || (backTo pos (starEach xs env)).any (·.1)) = false
      rw [this]
      rfl
/-! ### indices, slices -/
theorem atI_rps {l : List Tr} {xs : List V} {i : Int} {t : Tr} (r : Rps K F θ l xs) (h : atI l i = some t) : ∃ v, atI xs i = some v ∧ Rp K F θ t v := by
  unfold atI at h ⊢
  rw [r.length]
  cases e : ixN l.length i with
  | none => rw [e] at h; cases h
  | some j =>
    rw [e] at h
    exact r.get h
/-- an index's reading -/
theorem idxT_ok {x y t : Tr} {v w : V} {Q : VK} (R : Rel K F G θ s σ H) (h : idxT x y = some t) (r1 : RpH K F θ H x v) (r2 : RpV K F θ σ y w) (k : Fin K F G θ s σ t Q) : rIx K v w H Q := by
  unfold idxT at h
  split at h
  · obtain ⟨a, xs, rfl, q, r, _⟩ := tupH r1 R.m.fle
    cases (show Rp K F θ (.int _) w from r2)
    obtain ⟨z, e, rz⟩ := atI_rps r h
    exact .inr (.inl ⟨a, xs, _, z, rfl, rfl, q, e, k.same R rz⟩)
  · obtain ⟨a, xs, rfl, q, r⟩ := r1
    cases (show Rp K F θ (.int _) w from r2)
    obtain ⟨z, e, rz⟩ := atI_rps r h
    exact .inl ⟨a, xs, _, z, rfl, rfl, SqL.of q, e, k.same R rz⟩
  · obtain ⟨a, xs, rfl, q, r⟩ := flstH r1 R.m.fle
    cases (show Rp K F θ (.int _) w from r2)
    obtain ⟨z, e, rz⟩ := atI_rps r h
    exact .inl ⟨a, xs, _, z, rfl, rfl, q, e, k.same R rz⟩
  · split at h
    · obtain ⟨c, h9, rfl⟩ := map_some h
      cases strH r1
      cases (show Rp K F θ (.int _) w from r2)
      exact .inr (.inr ⟨_, _, c, rfl, rfl, by assumption, h9, k.same R (.str _)⟩)
    · cases h
  · cases h
theorem cut_rps {l : List Tr} {xs : List V} {lo hi : Option Int} (r : Rps K F θ l xs) : Rps K F θ (cutT l lo hi) (cutV xs lo hi) := by
  unfold cutT cutV
  rw [r.length]
  exact (r.drop _).take _
theorem slT_ok {x t : Tr} {v : V} {lo hi : Option Int} {Q : VK} (R : Rel K F G θ s σ H) (h : slT x lo hi = some t) (r1 : RpH K F θ H x v) (k : Fin K F G θ s σ t Q) : rSlA K v lo hi H Q ∨ rSlL K v lo hi H Q := by
  unfold slT at h
  split at h
  · cases h
    obtain ⟨a, xs, rfl, q, r, f⟩ := tupH r1 R.m.fle
    refine .inl ⟨a, xs, rfl, q, fun e => ?_, fun _ p np => k.tup R np (cut_rps r)⟩
    have : cutV xs lo hi = xs := by
      unfold cutV
      rw [e.1, e.2, List.drop_zero, Nat.sub_zero]
      exact List.take_of_length_le (Nat.le_refl _)
    refine k.same R (.tup f ?_)
    have q2 := cut_rps (lo := lo) (hi := hi) r
    rw [this] at q2
    exact q2
  · cases h
    obtain ⟨a, xs, rfl, q, r⟩ := r1
    exact .inr ⟨a, xs, rfl, SqL.of q, fun p np => k.lst R np (cut_rps r)⟩
  · cases h
    obtain ⟨a, xs, rfl, q, r⟩ := flstH r1 R.m.fle
    exact .inr ⟨a, xs, rfl, q, fun p np => k.lst R np (cut_rps r)⟩
  · cases h
theorem slT_nb {x t : Tr} {lo hi : Option Int} (h : slT x lo hi = some t) : x.pure = true := by cases x <;> first | rfl | (exact nomatch h)

/-! ### truth -/
theorem truth_ok {x : Tr} {b : Bool} {v : V} (hF : FLe F H) (h : truth x = some b) (r : RpH K F θ H x v) : TruV K v H b := by
  have emp : ∀ {l : List Tr} {xs : List V}, Rps K F θ l xs → (!xs.isEmpty) = !l.isEmpty := by
    intro l xs r
    cases r <;> rfl
  unfold truth at h
  split at h
  · cases h; cases nonH r; rfl
  · cases h; cases blH r; rfl
  · cases h; cases intH r; rfl
  · cases h
    obtain ⟨a, xs, rfl, q, r, _⟩ := tupH r hF
    exact .inr (.inl ⟨xs, q, (emp r).symm⟩)
  · cases h
    obtain ⟨a, xs, rfl, q, r⟩ := r
    exact .inl ⟨xs, SqL.of q, (emp r).symm⟩
  · cases h
theorem truth_nb {x : Tr} {b : Bool} (h : truth x = some b) : x.pure = true := by cases x <;> first | rfl | (exact nomatch h)
theorem idxT_nb {x y t : Tr} (h : idxT x y = some t) : x.pure = true := by cases x <;> first | rfl | (exact nomatch h)
/-- an operand that is something pure -/
theorem Rel.read (R : Rel K F G θ s σ H) {t : Tr} {v : V} (r : RpV K F θ σ t v) (p : (s.deref t).pure = true) : RpH K F θ H (s.deref t) v := by
  rcases R.deref r with ⟨i, e⟩ | h
  · rw [e] at p
    cases p
  · exact h
theorem RpVs.mono (hF : FLe F F') (hθ : θ <+: θ') : ∀ {ts : List Tr} {vs : List V}, RpVs K F θ σ ts vs → RpVs K F' θ' σ ts vs
  | _, _, .nil => .nil
  | _, _, .cons r s => .cons (r.mono hF hθ) (s.mono hF hθ)
theorem Rel.reads (R : Rel K F G θ s σ H) : ∀ {ts : List Tr} {vs : List V}, RpVs K F θ σ ts vs → (ts.map s.deref).all Tr.pure = true → RpHs K F θ H (ts.map s.deref) vs
  | _, _, .nil, _ => .nil
  | _, _, .cons r q, h => by
    rw [List.map_cons, List.all_cons, Bool.and_eq_true] at h
    exact .cons (R.read r h.1) (R.reads q h.2)
/-! ### the context -/
section
variable {D : Ds} {gc : List Tr} {cf : CF} {X : Cx} {sc : Scope}
theorem Cxt.u64 (C : Cxt D gc cf X sc) : X.A.units + 64 < cLine := by have := C.un; omega
/-- a test that is its value's truth -/
theorem pt_of {e : Ex} {ex : Expr} (h : PE X ex (RE gc cf X.K e)) (he : ∀ whole, isTrue ex X.env whole = (do let v ← whole; standAt ex.pos; holding [v] (truthy v))) (ev : ∀ s, evX gc cf e true s = fin true (evX gc cf e false s)) :
    PT X ex (RT gc cf X.K e) := by
  refine ⟨fun pins s0 σ H Q I hw => ?_⟩
  obtain ⟨F, G, θ, s, b, s', R, e1, k⟩ := hw
  rw [ev] at e1
  obtain ⟨x, s1, e2, e3⟩ := Rs.bind_eq e1
  obtain ⟨e4, rfl⟩ := Rs.of_eq e3
  obtain ⟨b', e5, e6⟩ := map_some e4
  obtain rfl : b' = b := by injection e6
  refine (pt_truth h he).run pins s0 σ H Q I ⟨F, G, θ, s, x, s1, R, e2, fun v H' F' θ' R' l p r => ?_⟩
  exact ⟨b', truth_ok R'.m.fle e5 (R'.read r (truth_nb e5)), k H' F' θ' R' l p⟩
end
end Ev
/-! Soundness: states that change; targets; what is walked. -/
namespace Ev
open PySem PySem.Spec L2
variable {K : PySem.W.Frag} {F F' G H : Hp} {θ θ' : List Addr} {s : Sta} {σ : St}

/-! ### states that change -/
/-- a thing of nobody's becomes one that stays -/
theorem Rel.fix {D : Addr} {o : HO} (R : Rel K F G θ s σ H) (h : H D = some o) (f : F D = none) (g : G D = none) (t : D ∉ θ) (ow : ∀ (i : Nat) (l : List Tr), s.env[i]? = some (Slot.own l) → σ[i]? ≠ some (some (V.ref D))) :
    Rel K (upd F D o) G θ s σ H := by
  have le : FLe F (upd F D o) := FLe.upd1 f
  refine ⟨⟨fun a u e => ?_, R.m.gle, fun a u e => ?_, R.m.len, R.m.nd, fun n u e => ?_⟩, R.len, fun i x e => ?_, R.dis⟩
  · by_cases z : a = D
    · subst z; rw [upd_same] at e; cases e; exact h
    · rw [upd_ne z] at e; exact R.m.fle a u e
  · rw [upd_ne (ne_of_none e g)]
    exact R.m.fg a u e
  · obtain ⟨a, h1, h2, h3, h4⟩ := R.m.ob n u e
    have ne : a ≠ D := fun z => t (z ▸ List.mem_of_getElem? h1)
    refine ⟨a, h1, by rw [upd_ne ne]; exact h2, h3, ?_⟩
    cases u
    obtain ⟨xs, q, r⟩ := h4
    exact ⟨xs, q, r.mono le (List.prefix_refl _)⟩
  · have r := R.slot i x e
    cases x with
    | none => exact r
    | val t => obtain ⟨y, e1, q⟩ := r; exact ⟨y, e1, q.mono le (List.prefix_refl _)⟩
    | own l =>
      obtain ⟨a, xs, e1, h1, f1, g1, t1, q⟩ := r
      have ne : a ≠ D := fun z => ow i l e (z ▸ e1)
      exact ⟨a, xs, e1, h1, by rw [upd_ne ne]; exact f1, g1, t1, q.mono le (List.prefix_refl _)⟩
theorem get_set {α : Type} {l : List α} {i j : Nat} {x y : α} (h : (l.set i x)[j]? = some y) : (i = j ∧ y = x ∧ i < l.length) ∨ (i ≠ j ∧ l[j]? = some y) := by
  by_cases e : i = j
  · subst e
    have hi : i < l.length := by have := (List.getElem?_eq_some_iff.mp h).1; simpa using this
    rw [List.getElem?_set_self hi] at h
    exact .inl ⟨rfl, (Option.some.inj h).symm, hi⟩
  · rw [List.getElem?_set_ne e] at h
    exact .inr ⟨e, h⟩
/-- a slot becomes a value -/
theorem Rel.store {i : Nat} {t : Tr} {v : V} (R : Rel K F G θ s σ H) (r : Rp K F θ t v) (hi : i < s.env.length) : Rel K F G θ ⟨s.env.set i (.val t), s.mem⟩ (σ.set i (some v)) H := by
  have hσ : i < σ.length := by rw [← R.len]; exact hi
  refine ⟨R.m, by simpa using R.len, fun j x e => ?_, fun a b l l' c e1 e2 e3 e4 => ?_⟩
  · rcases get_set e with ⟨rfl, rfl, _⟩ | ⟨ne, e⟩
    · exact ⟨v, by rw [List.getElem?_set_self hσ], r⟩
    · rw [List.getElem?_set_ne ne]
      exact R.slot j x e
  · rcases get_set e1 with ⟨_, z, _⟩ | ⟨n1, e1⟩
    · cases z
    · rcases get_set e2 with ⟨_, z, _⟩ | ⟨n2, e2⟩
      · cases z
      · rw [List.getElem?_set_ne n1] at e3
        rw [List.getElem?_set_ne n2] at e4
        exact R.dis a b l l' c e1 e2 e3 e4
/-- a slot becomes an own list -/
theorem Rel.storeOwn {i : Nat} {l : List Tr} {a : Addr} {xs : List V} (R : Rel K F G θ s σ H) (r : Rps K F θ l xs) (h : H a = some (.lst xs)) (f : F a = none) (g : G a = none) (t : a ∉ θ)
    (ow : ∀ (j : Nat) (l : List Tr), j ≠ i → s.env[j]? = some (Slot.own l) → σ[j]? ≠ some (some (V.ref a))) (hi : i < s.env.length) : Rel K F G θ ⟨s.env.set i (.own l), s.mem⟩ (σ.set i (some (.ref a))) H := by
  have hσ : i < σ.length := by rw [← R.len]; exact hi
  refine ⟨R.m, by simpa using R.len, fun j x e => ?_, fun p q l l' c e1 e2 e3 e4 => ?_⟩
  · rcases get_set e with ⟨rfl, rfl, _⟩ | ⟨ne, e⟩
    · exact ⟨a, xs, by rw [List.getElem?_set_self hσ], h, f, g, t, r⟩
    · rw [List.getElem?_set_ne ne]
      exact R.slot j x e
  · rcases get_set e1 with ⟨rfl, _, _⟩ | ⟨n1, e1⟩
    · rcases get_set e2 with ⟨rfl, _, _⟩ | ⟨n2, e2⟩
      · rfl
      · rw [List.getElem?_set_self hσ] at e3
        rw [List.getElem?_set_ne n2] at e4
        cases e3
        exact absurd e4 (ow q l' (Ne.symm n2) e2)
    · rcases get_set e2 with ⟨rfl, _, _⟩ | ⟨n2, e2⟩
      · rw [List.getElem?_set_self hσ] at e4
        rw [List.getElem?_set_ne n1] at e3
        cases e4
        exact absurd e3 (ow p l (Ne.symm n1) e1)
      · rw [List.getElem?_set_ne n1] at e3
        rw [List.getElem?_set_ne n2] at e4
        exact R.dis p q l l' c e1 e2 e3 e4
/-- an own list changes -/
theorem Rel.ownUpd {i : Nat} {l l' : List Tr} {a : Addr} {ys : List V} (R : Rel K F G θ s σ H) (e : s.env[i]? = some (.own l)) (ea : σ[i]? = some (some (.ref a))) (r : Rps K F θ l' ys) : Rel K F G θ ⟨s.env.set i (.own l'), s.mem⟩ σ (upd H a (.lst ys)) := by
  obtain ⟨xs, h, f, g, t, _⟩ := R.ownAt e ea
  have hi : i < s.env.length := (List.getElem?_eq_some_iff.mp e).1
  refine ⟨⟨fun b u q => ?_, fun b u q => ?_, R.m.fg, R.m.len, R.m.nd, fun n u q => ?_⟩, by simpa using R.len, fun j x q => ?_, fun p q l1 l2 c e1 e2 e3 e4 => ?_⟩
  · rw [upd_ne (ne_of_none q f)]; exact R.m.fle b u q
  · rw [upd_ne (ne_of_none q g)]; exact R.m.gle b u q
  · obtain ⟨b, h1, h2, h3, h4⟩ := R.m.ob n u q
    have ne : b ≠ a := fun z => t (z ▸ List.mem_of_getElem? h1)
    exact ⟨b, h1, h2, h3, by rw [upd_ne ne]; exact h4⟩
  · rcases get_set q with ⟨rfl, rfl, _⟩ | ⟨ne, q⟩
    · exact ⟨a, ys, ea, upd_same, f, g, t, r⟩
    · have rr := R.slot j x q
      cases x with
      | none => exact rr
      | val t => exact rr
      | own m =>
        obtain ⟨b, zs, e1, h1, f1, g1, t1, q1⟩ := rr
        have nb : b ≠ a := fun z => ne (R.dis i j l m a e q ea (z ▸ e1))
        exact ⟨b, zs, e1, by rw [upd_ne nb]; exact h1, f1, g1, t1, q1⟩
  · have g1 : ∃ m, s.env[p]? = some (.own m) := by
      rcases get_set e1 with ⟨rfl, _, _⟩ | ⟨_, z⟩
      · exact ⟨_, e⟩
      · exact ⟨_, z⟩
    have g2 : ∃ m, s.env[q]? = some (.own m) := by
      rcases get_set e2 with ⟨rfl, _, _⟩ | ⟨_, z⟩
      · exact ⟨_, e⟩
      · exact ⟨_, z⟩
    obtain ⟨m1, z1⟩ := g1
    obtain ⟨m2, z2⟩ := g2
    exact R.dis p q m1 m2 c z1 z2 e3 e4
/-- an own list becomes a value -/
theorem Rel.freeze {i : Nat} {l : List Tr} {a : Addr} {xs : List V} (R : Rel K F G θ s σ H) (e : s.env[i]? = some (.own l)) (ea : σ[i]? = some (some (.ref a))) (h : H a = some (.lst xs)) (r : Rps K F θ l xs) :
    Rel K (upd F a (.lst xs)) G θ ⟨s.env.set i (.val (.lst l)), s.mem⟩ σ H := by
  obtain ⟨_, _, f, g, t, _⟩ := R.ownAt e ea
  have R1 : Rel K F G θ ⟨s.env.set i .none, s.mem⟩ σ H := by
    refine ⟨R.m, by simpa using R.len, fun j x q => ?_, fun p q l1 l2 c e1 e2 e3 e4 => ?_⟩
    · rcases get_set q with ⟨rfl, rfl, _⟩ | ⟨ne, q⟩
      · exact trivial
      · exact R.slot j x q
    · rcases get_set e1 with ⟨_, z, _⟩ | ⟨n1, e1⟩
      · cases z
      · rcases get_set e2 with ⟨_, z, _⟩ | ⟨n2, e2⟩
        · cases z
        · exact R.dis p q l1 l2 c e1 e2 e3 e4
  have R2 := R1.fix h f g t fun j m q z => by
    rcases get_set q with ⟨_, w, _⟩ | ⟨ne, q⟩
    · cases w
    · exact ne (R.dis i j l m a e q ea z)
  refine ⟨R2.m, by simpa using R.len, fun j x q => ?_, fun p q l1 l2 c e1 e2 e3 e4 => ?_⟩
  · rcases get_set q with ⟨rfl, rfl, hi⟩ | ⟨ne, q⟩
    · exact ⟨_, ea, .lst upd_same (r.mono (FLe.upd1 f) (List.prefix_refl _))⟩
    · exact R2.slot j x (by show (s.env.set i .none)[j]? = _; rw [List.getElem?_set_ne ne]; exact q)
  · rcases get_set e1 with ⟨_, z, _⟩ | ⟨n1, e1⟩
    · cases z
    · rcases get_set e2 with ⟨_, z, _⟩ | ⟨n2, e2⟩
      · cases z
      · exact R.dis p q l1 l2 c e1 e2 e3 e4
/-- a new shared object -/
theorem Rel.share {p : Addr} {l : List Tr} {xs : List V} (R : Rel K F G θ s σ H) (n : H p = none) (r : Rps K F θ l xs) : Rel K F G (θ ++ [p]) ⟨s.env, s.mem ++ [.lst l]⟩ σ (upd H p (.lst xs)) := by
  have J := R.junk (o := .lst xs) n
  have np : p ∉ θ := fun hm => by
    obtain ⟨k, hk⟩ := List.getElem?_of_mem hm
    have hlt : k < θ.length := (List.getElem?_eq_some_iff.mp hk).1
    obtain ⟨b, q1, _, _, q4⟩ := R.m.ob k (s.mem[k]'(by rw [R.m.len]; exact hlt)) (by simp)
    rw [hk] at q1
    cases q1
    cases q5 : (s.mem[k]'(by rw [R.m.len]; exact hlt))
    rw [q5] at q4
    obtain ⟨zs, q, _⟩ := q4
    rw [n] at q
    cases q
  have pre : θ <+: θ ++ [p] := List.prefix_append _ _
  refine ⟨⟨J.m.fle, J.m.gle, J.m.fg, by rw [List.length_append, List.length_append, R.m.len]; rfl, ?_, fun k o e => ?_⟩, R.len, fun i x e => ?_, R.dis⟩
  · rw [List.nodup_append]
    exact ⟨R.m.nd, by simp, fun a ha b hb => by simp at hb; subst hb; exact fun z => np (z ▸ ha)⟩
  · by_cases hk : k < s.mem.length
    · rw [List.getElem?_append_left hk] at e
      obtain ⟨a, h1, h2, h3, h4⟩ := J.m.ob k o e
      cases o
      obtain ⟨zs, q, rz⟩ := h4
      exact ⟨a, pre_get pre h1, h2, h3, zs, q, rz.mono (FLe.refl _) pre⟩
    · rw [List.getElem?_append_right (by omega)] at e
      have e0 : k - s.mem.length = 0 := by
        rcases Nat.eq_zero_or_pos (k - s.mem.length) with z | z
        · exact z
        · rw [List.getElem?_eq_none (by simp; omega)] at e; cases e
      rw [e0] at e
      cases e
      have ek : k = θ.length := by rw [← R.m.len]; omega
      subst ek
      refine ⟨p, by simp, R.m.fle.none n, R.m.gle.none n, xs, upd_same, r.mono (FLe.refl _) pre⟩
  · have rr := J.slot i x e
    cases x with
    | none => exact rr
    | val t => obtain ⟨y, e1, q⟩ := rr; exact ⟨y, e1, q.mono (FLe.refl _) pre⟩
    | own m =>
      obtain ⟨a, zs, e1, h, f, g, t, q⟩ := rr
      refine ⟨a, zs, e1, h, f, g, ?_, q.mono (FLe.refl _) pre⟩
      rw [List.mem_append]
      rintro (z | z)
      · exact t z
      · simp at z
        subst z
        obtain ⟨b, ws, e2, h2, _⟩ := R.slot i _ e
        rw [e1] at e2
        cases e2
        rw [n] at h2
        cases h2
/-- a shared list changes -/
theorem Rel.memUpd {n : Nat} {l l' : List Tr} {a : Addr} {ys : List V} (R : Rel K F G θ s σ H) (e : s.mem[n]? = some (.lst l)) (ea : θ[n]? = some a) (r : Rps K F θ l' ys) : Rel K F G θ ⟨s.env, s.mem.set n (.lst l')⟩ σ (upd H a (.lst ys)) := by
  obtain ⟨b, h1, f, g, xs, h, rx⟩ := R.m.ob n _ e
  rw [ea] at h1
  cases h1
  have hn : n < s.mem.length := (List.getElem?_eq_some_iff.mp e).1
  refine ⟨⟨fun b u q => ?_, fun b u q => ?_, R.m.fg, by simpa using R.m.len, R.m.nd, fun k u q => ?_⟩, R.len, fun j x q => ?_, R.dis⟩
  · rw [upd_ne (ne_of_none q f)]; exact R.m.fle b u q
  · rw [upd_ne (ne_of_none q g)]; exact R.m.gle b u q
  · rcases get_set q with ⟨rfl, rfl, _⟩ | ⟨ne, q⟩
    · exact ⟨a, ea, f, g, ys, upd_same, r⟩
    · obtain ⟨b, q1, q2, q3, q4⟩ := R.m.ob k u q
      have nb : b ≠ a := fun z => by
        subst z
        have hk : k < θ.length := (List.getElem?_eq_some_iff.mp q1).1
        have hn' : n < θ.length := (List.getElem?_eq_some_iff.mp ea).1
        have e1 := (List.getElem?_eq_some_iff.mp q1).2
        have e2 := (List.getElem?_eq_some_iff.mp ea).2
        exact ne ((List.getElem_inj R.m.nd).mp (e2.trans e1.symm))
      exact ⟨b, q1, q2, q3, by rw [upd_ne nb]; exact q4⟩
  · have rr := R.slot j x q
    cases x with
    | none => exact rr
    | val t => exact rr
    | own m =>
      obtain ⟨b, zs, e1, h1, f1, g1, t1, q1⟩ := rr
      have nb : b ≠ a := fun z => t1 (z ▸ List.mem_of_getElem? ea)
      exact ⟨b, zs, e1, by rw [upd_ne nb]; exact h1, f1, g1, t1, q1⟩

/-! ### targets -/
theorem wipe_set {i : Nat} {x : Option V} : ∀ {vs : List Nat} {σ : St}, i ∈ vs → wipe (σ.set i x) vs = wipe σ vs
  | v :: vs, σ, h => by
    unfold wipe
    by_cases hi : i ∈ vs
    · rw [wipe_set hi]
    · have e : i = v := by
        rcases List.mem_cons.mp h with z | z
        · exact z
        · exact absurd z hi
      subst e
      have : ∀ {ws : List Nat} {τ : St}, (wipe (τ.set i x) ws).set i none = (wipe τ ws).set i none := by
        intro ws
        induction ws with
        | nil =>
          intro τ
          show (τ.set i x).set i none = τ.set i none
          rw [List.set_set]
        | cons w ws ih =>
          intro τ
          show ((wipe (τ.set i x) ws).set w none).set i none = ((wipe τ ws).set w none).set i none
          by_cases hw : w = i
          · subst hw
            rw [ih]
          · rw [List.set_comm _ _ hw, List.set_comm _ _ hw, ih]
      exact this
def RG (K : PySem.W.Frag) (tg : Tg) : TG := fun v σ H Q => ∃ F G θ env m t env', Rel K F G θ ⟨env, m⟩ σ H ∧ Rp K F θ t v ∧ asg tg t env = some env' ∧
  ∀ σ', Rel K F G θ ⟨env', m⟩ σ' H → (∀ vs, tgIn vs tg = true → wipe σ' vs = wipe σ vs) → Q σ' H
def RGs (K : PySem.W.Frag) (tgs : List Tg) : TGs := fun xs σ H Q => ∃ F G θ env m l env', Rel K F G θ ⟨env, m⟩ σ H ∧ Rps K F θ l xs ∧ asgs tgs l env = some env' ∧
  ∀ σ', Rel K F G θ ⟨env', m⟩ σ' H → (∀ vs, tgsIn vs tgs = true → wipe σ' vs = wipe σ vs) → Q σ' H
theorem assignEach_cons {e : Expr} {es : List Expr} {env : Env} (h : isStar e = false) : assignEach (e :: es) env = (false, assign e env) :: assignEach es env := by
  cases e <;> first | rfl | (exact nomatch h)
theorem chkTs_len {N : List Str} {sc : Scope} {env : Env} : ∀ {gs : List Tg} {es : List Expr}, chkTs N sc gs es = true → (assignEach es env).length = gs.length ∧ (assignEach es env).findIdx? (·.1) = none
  | [], es, h => by
    cases es with
    | nil => exact ⟨rfl, rfl⟩
    | cons _ _ => exact nomatch h
  | g :: gs, es, h => by
    cases es with
    | nil => exact nomatch h
    | cons e es =>
      simp only [chkTs] at h
      obtain ⟨h1, h2⟩ := and2 h
      obtain ⟨h1, h3⟩ := and2 h1
      rw [assignEach_cons (by simpa using h1)]
      obtain ⟨q1, q2⟩ := chkTs_len (env := env) h2
      refine ⟨by rw [List.length_cons, List.length_cons, q1], ?_⟩
      rw [List.findIdx?_cons]
      simp [q2]
theorem asgs_len : ∀ {gs : List Tg} {l : List Tr} {env env' : List Slot}, asgs gs l env = some env' → l.length = gs.length
  | [], [], _, _, _ => rfl
  | [], _ :: _, _, _, h => by simp only [asgs] at h; cases h
  | _ :: _, [], _, _, h => by simp only [asgs] at h; cases h
  | g :: gs, t :: l, env, env', h => by
    simp only [asgs] at h
    cases e : asg g t env with
    | none => rw [e] at h; cases h
    | some env1 =>
      rw [e] at h
      rw [List.length_cons, List.length_cons, asgs_len h]
mutual
theorem sT {X : Cx} (hN : X.N.Nodup) (hc : X.calm = true) {sc : Scope} (loc : ∀ x, locB sc x = true → Loc X.env.scope x ∧ (X.fn x = true ∨ X.env.scope.names.lookup x = some .local)) : ∀ (tg : Tg) (ex : Expr), chkT X.N sc tg ex = true → PG X ex (RG X.K tg)
  | .nm i, ex, h => by
    simp only [chkT] at h
    split at h
    · rename_i x pos
      obtain ⟨h1, h2⟩ := and2 h
      have h1 := of_decide_eq_true h1
      obtain ⟨hl, hf⟩ := loc x h2
      refine ⟨fun pins s0 σ H v u Q I r q => ?_⟩
      obtain ⟨F, G, θ, env, m, t, env', R, rt, e, k⟩ := q
      simp only [asg] at e
      split at e
      · rename_i hh
        obtain ⟨h3, h4⟩ := and2 hh
        cases e
        refine (pg_name (i := i) hN h1 hl hf).run pins s0 σ H v u Q I r ?_
        refine k _ (R.store rt (of_decide_eq_true h4)) fun vs hv => ?_
        simp only [tgIn] at hv
        exact wipe_set (List.contains_iff_mem.mp hv)
      · cases e
    · cases h
  | .tp gs, ex, h => by
    simp only [chkT] at h
    split at h
    · rename_i es kk pos
      have hg := sTs hN hc loc gs es h
      obtain ⟨q1, q2⟩ := chkTs_len (env := X.env) h
      refine ⟨fun pins s0 σ H v u Q I r q => ?_⟩
      obtain ⟨F, G, θ, env, m, t, env', R, rt, e, k⟩ := q
      cases t with
      | tup l =>
        simp only [asg] at e
        cases rt with
        | tup hq hr =>
          refine (pg_tup (n := gs.length) hc hg q1 q2).run pins s0 σ H _ u Q I r ⟨_, _, rfl, R.m.fle.tup hq, ?_, F, G, θ, env, m, l, env', R, hr, e, fun σ' R' w => k σ' R' fun vs hv => w vs (by simpa only [tgIn] using hv)⟩
          rw [hr.length, asgs_len e]
      | _ => simp only [asg] at e; cases e
    · cases h
theorem sTs {X : Cx} (hN : X.N.Nodup) (hc : X.calm = true) {sc : Scope} (loc : ∀ x, locB sc x = true → Loc X.env.scope x ∧ (X.fn x = true ∨ X.env.scope.names.lookup x = some .local)) : ∀ (tgs : List Tg) (es : List Expr), chkTs X.N sc tgs es = true → PGs X es (RGs X.K tgs)
  | [], es, h => by
    cases es with
    | cons _ _ => exact nomatch h
    | nil =>
      refine ⟨fun pins s0 σ H vs us Q I r q => ?_⟩
      obtain ⟨F, G, θ, env, m, l, env', R, rl, e, k⟩ := q
      cases l with
      | nil =>
        cases rl
        simp only [asgs] at e
        cases e
        exact pgs_nil.run pins s0 σ H [] us Q I r ⟨rfl, k σ R fun _ _ => rfl⟩
      | cons _ _ => simp only [asgs] at e; cases e
  | g :: gs, es, h => by
    cases es with
    | nil => exact nomatch h
    | cons x xs =>
      simp only [chkTs] at h
      obtain ⟨h1, h2⟩ := and2 h
      obtain ⟨h1, h3⟩ := and2 h1
      have g1 := sT hN hc loc g x h3
      have g2 := sTs hN hc loc gs xs h2
      refine ⟨fun pins s0 σ H vs us Q I r q => ?_⟩
      obtain ⟨F, G, θ, env, m, l, env', R, rl, e, k⟩ := q
      cases l with
      | nil => simp only [asgs] at e; cases e
      | cons t l =>
        simp only [asgs] at e
        cases e1 : asg g t env with
        | none => rw [e1] at e; cases e
        | some env1 =>
          rw [e1] at e
          cases rl with
          | cons r1 r2 =>
            refine (pgs_cons g1 g2 (by rw [assignEach_cons (by simpa using h1)]; rfl)).run pins s0 σ H _ us Q I r ⟨_, _, rfl, F, G, θ, env, m, t, env1, R, r1, e1, fun σ1 R1 w1 => ?_⟩
            refine ⟨F, G, θ, env1, m, l, env', R1, r2, e, fun σ2 R2 w2 => k σ2 R2 fun vs hv => ?_⟩
            simp only [tgsIn] at hv
            obtain ⟨v1, v2⟩ := and2 hv
            exact (w2 vs v2).trans (w1 vs v1)
end
end Ev
/-! enumerate over a tuple. -/
namespace Ev
open PySem PySem.Spec L2
theorem meets_enumT (l : Addr) (items : Array Value) :
    Meets (Builtin.«enumerate.__new__» ⟨[.type "enumerate", .ref l], []⟩) (fun _ R s => s.heap.IsTuple l items ∧
      R (.ok (.ret (.ref (s.heap.push { cls := .type "tuple_iterator", data := .fields #[.ref l, .int 0 0] }).objs.size)))
        { s with heap := (s.heap.push { cls := .type "tuple_iterator", data := .fields #[.ref l, .int 0 0] }).push { cls := .type "enumerate", data := .fields #[.none, .bool false, .ref s.heap.objs.size, rawInt 0, .none, .none] } }) :=
  .of_wp fun prog w A R s h => by
    obtain ⟨hp, g, d, tk, os⟩ := s; obtain ⟨hL, h⟩ := h
    have hsub := sub_enumerate
    have q1 : ∀ {A' : Around} {E : Value → Shared → Prop} {Q : Value → Shared → Prop}, Q (.ref hp.objs.size) ⟨hp.push { cls := .type "tuple_iterator", data := .fields #[.ref l, .int 0 0] }, g, d, tk, os⟩ → wpAny (model prog w) A' (pyIter (.ref l)) Q E ⟨hp, g, d, tk, os⟩ :=
      fun q => wpAny_pyIter_tuple hL q
    wp_walk using q1
    refine wpAny_stack_any fun st => wpAny_pure ?_
    split
    · rename_i c _ _ _ _ _
      cases (c == Value.type "enumerate")
      · wp_walk using q1
        exact ⟨_, rfl, h⟩
      · wp_walk using q1
        exact ⟨_, rfl, h⟩
    · wp_walk using q1
      exact ⟨_, rfl, h⟩
section
variable {prog : Program} {w : World} {A : Around} {E : Value → Shared → Prop} {s : Shared}
theorem call_enumT {l : Addr} {items : Array Value} {Q : Value → Shared → Prop} (hL : s.heap.IsTuple l items)
    (h : ∀ h', IsEnum h' (s.heap.objs.size + 1) s.heap.objs.size 0 .none → h'.IsTupleIter s.heap.objs.size l 0 → h'.objs.size = s.heap.objs.size + 2 →
      (∀ b o, s.heap.get? b = some o → h'.get? b = some o) → Q (.ref (s.heap.objs.size + 1)) { s with heap := h' }) :
    wpAny (model prog w) A (call (.type "enumerate") [.ref l]) Q E s := by
  refine callType_new F.called_enumerate (by decide) (F.typeCall_enumerate_1 _) (F.newCall_enumerate_1 _) (fun obj => F.args_object_init_2 obj _) F.entry_enumerate_new
    (meets_enumT l items) ⟨hL, ?_⟩
  have hz : (s.heap.push { cls := .type "tuple_iterator", data := .fields #[.ref l, .int 0 0] }).objs.size = s.heap.objs.size + 1 := Heap.size_push ..
  show _ ∧ _
  rw [hz]
  have he : IsEnum ((s.heap.push { cls := .type "tuple_iterator", data := .fields #[.ref l, .int 0 0] }).push
      { cls := .type "enumerate", data := .fields #[.none, .bool false, .ref s.heap.objs.size, rawInt 0, .none, .none] }) (s.heap.objs.size + 1) s.heap.objs.size 0 .none := by
    have := Heap.get?_push_size (s.heap.push { cls := .type "tuple_iterator", data := .fields #[.ref l, .int 0 0] })
      (o := { cls := .type "enumerate", data := .fields #[.none, .bool false, .ref s.heap.objs.size, rawInt 0, .none, .none] }) rfl
    rw [hz] at this; exact this
  refine ⟨⟨_, he, rfl⟩, h _ he ⟨_, Heap.get?_push_of_some _ (Heap.get?_push_size _ rfl), rfl, rfl⟩ (by rw [Heap.size_push, hz]) fun b o x => Heap.get?_push_of_some _ (Heap.get?_push_of_some _ x)⟩
end
def IteT (K : PySem.W.Frag) (a : Addr) : It :=
  ⟨fun i H => ∃ (xs : List V) (x : V), SqT K H a xs ∧ xs[i]? = some x, fun i H v H' => ∃ T x, v = .ref T ∧ H T = none ∧ H' = upd H T (.tup [.int (i : Nat), x]) ∧ ∀ xs, SqT K H a xs → xs[i]? = some x, fun i H => ∃ xs : List V, SqT K H a xs ∧ xs.length ≤ i⟩
theorem turn_enumT {P : Program} {w : World} {K : PySem.W.Frag} {elts : List Expr} {kk : Nat} {tpos : Pos} (a e it : Addr) :
    Turn P w K (.Tuple elts kk tpos) (IteT K a) [e, it] e (fun i h => (∃ old, IsEnum h e it ((i : Nat) : Int) old) ∧ h.IsTupleIter it a i ∧ e ≠ it) where
  mem := by simp
  obj := fun i h st b hb => by
    obtain ⟨⟨old, he⟩, ⟨o, ho, hc, hd⟩, _⟩ := st
    have e' : b = e ∨ b = it := by simpa using hb
    rcases e' with z | z
    · rw [z]; exact ⟨_, he, fun v q => nomatch q⟩
    · rw [z]; exact ⟨o, ho, fun v q => by rw [hd] at q; cases q⟩
  keep := fun i h h' st k => let ⟨⟨old, he⟩, hi, hne⟩ := st; ⟨⟨old, k e (by simp) _ he⟩, hi.at fun o q => k it (by simp) o q, hne⟩
  item := by
    intro X hP hw hK hc i pins s σ H E I hf st hg
    subst hP hw hK
    obtain ⟨⟨old, he⟩, hit, hne⟩ := st
    obtain ⟨xs, x, hq, hx⟩ := hg
    obtain ⟨its, rv, p, hz⟩ := I.tuple hq
    obtain ⟨u, hu, ru⟩ := rv.get hx
    have hT0 : s.heap.IsTuple a its.toArray := p
    have hel : e < s.heap.objs.size := Heap.lt_size he
    have hil : it < s.heap.objs.size := by obtain ⟨_, q, _⟩ := hit; exact Heap.lt_size q
    have hal : a ≠ it := by
      rintro rfl
      obtain ⟨o1, q1, c1, _⟩ := hit
      obtain ⟨o2, q2, c2, _⟩ := hT0
      rw [q1] at q2
      cases q2
      rw [c1] at c2
      exact absurd c2 (by decide +kernel)
    have hae : e ≠ a := by
      rintro rfl
      obtain ⟨o2, q2, c2, _⟩ := hT0
      have : some _ = some o2 := he.symm.trans q2
      cases this
      have c3 : Value.type "enumerate" = Value.type "tuple" := c2
      exact absurd c3 (by decide +kernel)
    have hlt : i < its.toArray.size := by
      have := (List.getElem?_eq_some_iff.mp hu).1
      simpa using this
    refine wpAny_pyNext_enum_itemD (Draws.tuple (A := X.A.in1) (show X.A.in1.handled = none from I.ok.hd hc) it a hal its.toArray) he ⟨hit, hT0⟩ hlt hne (by simp [hne, hae]) fun u' h' tk hP ho hs' hT hsz hk => ?_
    obtain rfl : u = u' := by
      have : its[i]? = some u' := by simpa using hP
      rw [hu] at this
      exact Option.some.inj this
    obtain ⟨hit', _⟩ := hs'
    refine ⟨_, rfl, wpAny_letOwnedTupleGo_enum (s := { s with heap := h', toks := tk + 1 }) ho fun h'' he' sb => ?_⟩
    have hT2 : h''.get? s.heap.objs.size = some { cls := .type "tuple", data := .seq #[.int i tk, u] } := (sb.2 _ (Nat.ne_of_gt hel)).trans hT
    have new : ObjOk X.prog X.w (upd H s.heap.objs.size (.tup [.int (i : Nat), x])) h'' s.heap.objs.size (.tup [.int (i : Nat), x]) :=
      ⟨by show 2 ≤ sizeLine; decide, [.int i tk, u], .cons ⟨_, rfl⟩ (.cons ru .nil), ⟨_, hT2, rfl, _, rfl⟩⟩
    have I1 : Inv X pins σ (upd H s.heap.objs.size (.tup [.int (i : Nat), x])) { s with heap := h'', toks := tk + 1 } :=
      I.turnedNew (ch := [e, it]) (fun b ob hb q => (sb.2 b (fun z => hb (by simp [z]))).trans (hk b ob (fun z => hb (by simp [z])) (fun z => hb (by simp [z])) q)) hf (Nat.le_refl _) new
    refine ⟨.ref s.heap.objs.size, _, I1, rfl, ⟨_, x, rfl, I.hok.fresh (Nat.le_refl _), rfl, fun ys hy => ?_⟩, ⟨⟨u, ?_⟩, hit'.at fun o q => (sb.2 it (Ne.symm hne)).trans q, hne⟩, fun b hb => ?_⟩
    · rw [I.tuple_inj hy hq]; exact hx
    · have e1 : ((i + 1 : Nat) : Int) = (i : Int) + 1 := by omega
      rw [e1]; exact he'
    · have hb' : b < s.heap.objs.size := by
        have e' : b = e ∨ b = it := by simpa using hb
        rcases e' with z | z
        · rw [z]; exact hel
        · rw [z]; exact hil
      rw [upd_ne (Nat.ne_of_lt hb')]
      exact (hf b hb).1
  done := by
    intro X hP hw hK hc i pins s σ H E I hf st hg
    subst hP hw hK
    obtain ⟨⟨old, he⟩, hit, hne⟩ := st
    obtain ⟨xs, hq, hx⟩ := hg
    obtain ⟨its, rv, p, hz⟩ := I.tuple hq
    have hT0 : s.heap.IsTuple a its.toArray := p
    obtain ⟨f0, f1, f2, f3, f4, f5⟩ := hf it (by simp)
    have hl := rv.length
    have hT : s.TypeIs (.ref e) "enumerate" := ⟨_, he, rfl⟩
    unfold pyNext
    refine wpAny_bind (wpAny_attempt (wpAny_callSpecial?_slot (name := Str.ofString "__next__") hT F.slot_enumerate_next
      (wpAny_call_entry F.slot_enumerate_next hT F.entry_enumerate_next ?_ (F.args_enumerate_next_1 _))))
    show wpAny _ _ (field (.ref e) 2 >>= _) _ _ _
    refine wpAny_bind (wpAny_field he rfl (x := .ref it) rfl ?_)
    refine wpAny_bind (RZ.nextOf_tuple_end (I.ok.hd hc) hit hT0 (by simp; omega) fun h' x he' hx' => ?_)
    obtain ⟨o, ho, hc⟩ := hx'
    refine wpAny_bind (wpAny_isInstance (T := "StopIteration") (b := true) ⟨o, ho, hc⟩ isSubtype_stop ?_)
    exact wpAny_pure ⟨rfl, I.turned (t' := s.toks) (fun b o hb q => he' b o hb q) f0 f1 f3 f4 f5⟩
  self := fun A i s Q E st h => let ⟨⟨_, he⟩, _⟩ := st; wpAny_pyIter_enum he h
def iEnumT (K : PySem.W.Frag) (ta : TA) : TI := fun σ H R => ta σ H fun vs H1 => ∃ a xs, vs = [.ref a] ∧ SqT K H1 a xs ∧ R (IteT K a) H1
theorem pi_enumT {X : Cx} {e : Expr} {ta : TA} {p pos tpos : Pos} {elts : List Expr} {kk : Nat} (hg : Gl X "enumerate") (hm : X.mg "enumerate" = none) (ha : PA X [e] ta) (hs : starEach [e] X.env = [(false, eval e X.env)] := by rfl) :
    PI X (.Tuple elts kk tpos) (.Call (.Name "enumerate" p) [e] [] pos) (iEnumT X.K ta) := by
  refine ⟨fun pins s σ H R I h => ?_⟩
  refine PyProof.Rows.Call_ (ld_blt I hg hm PyProof.Rows.boot_enumerate (PyProof.Rows.callWith_type1 (thn (ha.run pos pins s σ H _ I h) fun us s1 ⟨vs, H1, I1, r1, q1⟩ => ?_) hs rfl))
  obtain ⟨a, xs, ex, hq, q⟩ := q1
  subst ex
  cases r1 with
  | cons r rr =>
    cases rr
    cases r
    obtain ⟨its, rv, p', hz⟩ := I1.tuple hq
    refine call_enumT (show s1.heap.IsTuple a its.toArray from p') fun h' he hit hsz hk => wpAny_pyIter_enum he ?_
    have I2 : Inv X pins σ H1 { s1 with heap := h' } := I1.kept (t' := s1.toks) hk
    refine ⟨s1.heap.objs.size + 1, [s1.heap.objs.size + 1, s1.heap.objs.size], _, _, H1, rfl, I2, turn_enumT a (s1.heap.objs.size + 1) s1.heap.objs.size, ⟨⟨.none, he⟩, hit, Nat.succ_ne_self _⟩, fun b hb => ?_, q⟩
    have e' : b = s1.heap.objs.size + 1 ∨ b = s1.heap.objs.size := by simpa using hb
    have hle : s1.heap.objs.size ≤ b := by
      rcases e' with z | z
      · rw [z]; exact Nat.le_add_right _ _
      · rw [z]; exact Nat.le_refl _
    exact I1.fpOk hle (I1.hok.fresh hle)
theorem walk_enumT {K : PySem.W.Frag} {a : Addr} {xs : List V} : Walk (IteT K a) xs.length (fun H => SqT K H a xs) (fun i H v H' => ∃ T x, v = .ref T ∧ H T = none ∧ H' = upd H T (.tup [.int (i : Nat), x]) ∧ xs[i]? = some x) :=
  ⟨fun i H hi h => ⟨xs, xs[i]'hi, h, by simp⟩, fun H h => ⟨xs, h, Nat.le_refl _⟩, fun i H x H' hi h y => by
    obtain ⟨T, x1, e1, e2, e3, e4⟩ := y
    exact ⟨T, x1, e1, e2, e3, e4 xs h⟩⟩
end Ev
/-! t[::-1], t a tuple. -/
namespace Ev
open PySem PySem.Spec L2
open HT
open PyProof.Rows hiding St
section
variable {prog : Program} {w : World} {A : Around} {E : Value → Shared → Prop} {s : Shared}
theorem applied_rev {sl : Addr} {vl vu vs : Value} {n : Nat} {Q : Int × Int × Nat → Shared → Prop} (hs : s.heap.IsSliceOf sl vl vu vs) (pl : IsPart vl none) (pu : IsPart vu none) (ps : IsPart vs (some (-1)))
    (h : Q ((n : Int) - 1, -1, n) s) : wpAny (model prog w) A (Builtin.Slice.sliceApplied (.ref sl) (pure (n : Int))) Q E s := by
  obtain ⟨o, ho, hc, hd⟩ := id hs
  unfold Builtin.Slice.sliceApplied Builtin.Slice.sliceFields
  refine wpAny_bind (wpAny_bind (wpAny_field ho hd (x := vl) rfl (wpAny_bind (wpAny_field ho hd (x := vu) rfl (wpAny_bind (wpAny_field ho hd (x := vs) rfl (wpAny_pure ?_)))))))
  refine wpAny_bind (slicePart_ ps ?_)
  show wpAny _ _ (if ((-1 : Int) == 0) = true then _ else _) _ _ s
  rw [if_neg (by decide)]
  refine wpAny_bind (slicePart_ pl (wpAny_bind (slicePart_ pu (wpAny_bind (wpAny_pure ?_)))))
  have e : Builtin.Slice.slicePlaces ((n : Int) - 1) (-1) (-1) = n := by
    unfold Builtin.Slice.slicePlaces
    rw [if_neg (by decide)]
    by_cases z : n = 0
    · subst z; rfl
    · rw [if_pos (by omega), show (- -1 : Int) = 1 from rfl, Int.ediv_one]
      omega
  show wpAny _ _ (pure ((n : Int) - 1, (-1 : Int), Builtin.Slice.slicePlaces ((n : Int) - 1) (-1) (-1))) _ _ s
  rw [e]
  exact wpAny_pure h
theorem pick_rev (xs : Array Value) : ((List.range xs.size).filterMap fun (m : Nat) => xs[(((xs.size : Nat) : Int) - 1 + (m : Int) * -1).toNat]?).toArray = xs.toList.reverse.toArray := by
  congr 1
  have e : ∀ n : Nat, n ≤ xs.size → (List.range n).filterMap (fun (m : Nat) => xs[(((xs.size : Nat) : Int) - 1 + (m : Int) * -1).toNat]?) = (xs.toList.drop (xs.size - n)).reverse := by
    intro n
    induction n with
    | zero => intro _; simp
    | succ n ih =>
      intro hn
      have i : (((xs.size : Nat) : Int) - 1 + (n : Int) * -1).toNat = xs.size - (n + 1) := by omega
      have hlt : xs.size - (n + 1) < xs.toList.length := by rw [Array.length_toList]; omega
      rw [List.range_succ, List.filterMap_append, ih (by omega), List.filterMap_cons, i]
      have g : xs[xs.size - (n + 1)]? = some (xs.toList[xs.size - (n + 1)]'hlt) := by
        rw [Array.getElem?_eq_getElem (by rw [Array.length_toList] at hlt; exact hlt)]
        rfl
      rw [g, List.filterMap_nil, List.drop_eq_getElem_cons hlt, List.reverse_cons, show xs.size - (n + 1) + 1 = xs.size - n by omega]
  rw [e xs.size (Nat.le_refl _), Nat.sub_self, List.drop_zero]
theorem item_rev {t sl : Addr} {items : Array Value} {vl vu vs : Value} {Q : Value → Shared → Prop} (ht : IsTup s.heap t items) (hs : s.heap.IsSliceOf sl vl vu vs) (pl : IsPart vl none) (pu : IsPart vu none) (ps : IsPart vs (some (-1)))
    (h : Q (.ref s.heap.objs.size) { s with heap := s.heap.push { cls := .type "tuple", data := .seq items.toList.reverse.toArray } }) (hsz : items.size ≤ sizeLine) : wpAny (model prog w) A (getItem (.ref t) (.ref sl)) Q E s := by
  have hfit : sizeOk (.seq items.toList.reverse.toArray) := by
    show items.toList.reverse.toArray.size ≤ sizeLine
    rw [List.size_toArray, List.length_reverse, Array.length_toList]
    exact hsz
  obtain ⟨o, ho, hc, hd⟩ := id hs
  have hT : s.TypeIs (.ref sl) "slice" := ⟨o, ho, hc⟩
  unfold getItem
  try with_reducible refine wpAny_holding ?_
  first | refine wpAny_bind (wpAny_pure ?_) | skip
  refine wpAny_bind (wpAny_sequenceKey ht.typeIs (by decide) ?_)
  refine wpAny_bind (wpAny_callSpecial?_slot (name := Str.ofString "__getitem__") ht.typeIs slot_tuple_getitem
    (wpAny_call_entry slot_tuple_getitem ht.typeIs entry_tuple_getitem ?_ (args_tuple_getitem _ _)))
  show wpAny _ _ (Builtin.Tuple.tupleItemsOf (.ref t) >>= _) _ _ s
  refine wpAny_bind (tupleItemsOf_ ht ?_)
  refine wpAny_bind (wpAny_typeOf hT ?_)
  rw [if_pos (by decide)]
  refine wpAny_bind (applied_rev hs pl pu ps ?_)
  have hno : ¬ (((((items.size : Nat) : Int) - 1) == 0 && (-1 : Int) == 1 && items.size == items.size) = true) := by
    rw [show ((-1 : Int) == 1) = false from rfl, Bool.and_false, Bool.false_and]
    exact Bool.false_ne_true
  show wpAny _ _ (if ((((items.size : Nat) : Int) - 1) == 0 && (-1 : Int) == 1 && items.size == items.size) = true then _ else _) _ _ s
  rw [if_neg hno, pick_rev]
  first
    | exact wpAny_bind (m := Builtin.Tuple.tupleExact _) (wpAny_newObj_type (wpAny_pure ⟨_, rfl, wpAny_pure h⟩) hfit)
    | exact wpAny_bind (m := Builtin.Tuple.tupleExact _) (wpAny_newObj_type (wpAny_bind (wpAny_pure (wpAny_pure ⟨_, rfl, wpAny_pure h⟩))) hfit)
    | exact wpAny_bind (wpAny_bind (m := Builtin.Tuple.tupleExact _) (wpAny_newObj_type (wpAny_pure (wpAny_pure ⟨_, rfl, wpAny_pure h⟩)) hfit))
    | exact wpAny_bind (wpAny_bind (m := Builtin.Tuple.tupleExact _) (wpAny_newObj_type (wpAny_pure ⟨_, rfl, wpAny_pure h⟩) hfit))
end
def tRevT (K : PySem.W.Frag) (te : TE) : TE := fun σ H Q => te σ H fun x H1 => ∃ a xs, x = .ref a ∧ SqT K H1 a xs ∧ ∀ p, H1 p = none → Q (.ref p) (upd H1 p (.tup xs.reverse))
theorem pe_revT {X : Cx} {e : Expr} {te : TE} {k : Nat} {p1 p2 p3 pos : Pos} (he : PE X e te) : PE X (.Subscript e (.Slice none none (some (.UnaryOp .USub (.Constant (.int 1) k p1) p2)) p3) pos) (tRevT X.K te) := by
  refine ⟨fun pins s σ H Q I h => Subscript_ (thn (he.run pins s σ H _ I h) fun v s1 ⟨x, H1, I1, r1, a, xs, ex, hx, q⟩ => ?_)⟩
  subst ex
  cases r1
  have hst : PO X (some (.UnaryOp .USub (.Constant (.int 1) k p1) p2)) (tPart (tUn (rU fun i => .int (-i)) (tC (.int 1)))) := po_some (pe_un un_neg pe_int)
  refine wpAny_Slice (thn (po_none.run pins s1 σ H1 (fun o H2 => o = none ∧ H2 = H1) I1 ⟨rfl, rfl⟩) fun vl s2 ⟨l, H2, I2, pl, el, e2⟩ => ?_)
  subst el e2
  refine thn (po_none.run pins s2 σ H2 (fun o H3 => o = none ∧ H3 = H2) I2 ⟨rfl, rfl⟩) fun vu s3 ⟨u, H3, I3, pu, eu, e3⟩ => ?_
  subst eu e3
  refine thn (hst.run pins s3 σ H3 (fun o H4 => o = some (-1) ∧ H4 = H3) I3 ⟨1, rfl, -1, rfl, rfl, rfl⟩) fun vs s4 ⟨o, H4, I4, ps, eo, e4⟩ => ?_
  subst eo e4
  have I5 : Inv X pins σ H4 { s4 with heap := s4.heap.push { cls := .type "slice", data := .fields #[vl, vu, vs] } } := I4.kept (t' := s4.toks) fun b ob q => Heap.get?_push_of_some _ q
  obtain ⟨its, r, ht, hz⟩ := I5.tuple hx
  have hlen := r.length
  show wpAny (model X.prog X.w) X.A (subscriptTail e (.Slice none none (some (.UnaryOp .USub (.Constant (.int 1) k p1) p2)) p3) (.ref a) (.ref s4.heap.objs.size)) (EP X pins σ Q) X.xe { s4 with heap := s4.heap.push { cls := .type "slice", data := .fields #[vl, vu, vs] } }
  refine tail_any (ops := [.ref a, .ref s4.heap.objs.size]) ht.typeIs (slot_tuple_getitem.lookup) ?_ (by with_unfolding_all rfl)
  refine item_rev ht (Heap.IsSliceOf.new _ vl vu vs) pl pu ps ?_ (by rw [List.size_toArray]; omega)
  refine ⟨.ref _, _, I5.laid (t' := s4.toks) (o := .tup xs.reverse) (fun b ob q => Heap.get?_push_of_some _ q) (Nat.le_refl _) ?_, rfl, q _ (I5.hok.fresh (Nat.le_refl _))⟩
  exact ⟨by rw [List.length_reverse]; exact hz, _, r.reverse, IsTup.new _ _⟩
end Ev
/-! Soundness: what loops and comprehensions walk. -/
namespace Ev
open PySem PySem.Spec L2
variable {K : PySem.W.Frag} {F F' G H : Hp} {θ θ' : List Addr} {s : Sta} {σ : St}

theorem len2 {α : Type} {l : List α} (h : l.length = 2) : ∃ a b, l = [a, b] := by
  match l, h with
  | [a, b], _ => exact ⟨a, b, rfl⟩

def chkIt (D : Ds) (N : List Str) (sc : Scope) (k : Nat) (tg : Tg) (its : List Ex) (iter : Expr) : Bool := match k with
      | 0 => chks D N sc its [iter]
      | 1 => (match iter with
        | .Call (.Name y _) ys [] _ => blB D sc y "range" && chks D N sc its ys && decide (ys.length = 1)
        | _ => false)
      | 2 => (match iter with
        | .Call (.Name y _) ys [] _ => blB D sc y "range" && chks D N sc its ys && decide (ys.length = 2)
        | _ => false)
      | 3 => isTp tg && (match iter with
        | .Call (.Name y _) ys [] _ => blB D sc y "enumerate" && chks D N sc its ys && decide (ys.length = 1)
        | _ => false)
      | 4 => isTp tg && (match iter with
        | .Call (.Name y _) ys [] _ => blB D sc y "zip" && chks D N sc its ys && decide (ys.length = 2)
        | _ => false)
      | _ => false
def YOk (K : PySem.W.Frag) (F : Hp) (θ : List Addr) (xs : List Tr) : Nat → Hp → V → Hp → Prop := fun i H x H' => ∃ t, xs[i]? = some t ∧
  ((H' = H ∧ Rp K F θ t x) ∨ ∃ p l vs, H p = none ∧ x = .ref p ∧ H' = upd H p (.tup vs) ∧ t = .tup l ∧ Rps K F θ l vs ∧ vs.length ≤ sizeLine)
section
variable (gc : List Tr) (cf : CF)
def RI (K : PySem.W.Frag) (k : Nat) (its : List Ex) : TI := fun σ H R => ∃ F G θ s vs s1 xs, Rel K F G θ s σ H ∧ evEs gc cf its s = .ok vs s1 ∧ (vs.map s1.deref).all Tr.pure = true ∧ items k (vs.map s1.deref) = some xs ∧
  ∀ J H' F' θ', Rel K F' G θ' s1 σ H' → FLe F F' → θ <+: θ' → Walk J xs.length (fun H => FLe F' H ∧ (vs.all Tr.pure = true ∨ FLe (ownG s1 σ G H') H)) (YOk K F' θ' xs) → R J H'
end
def isTupT : Tr → Bool
  | .tup _ => true
  | _ => false
/-- a sequence that stays while others work -/
theorem Rel.stable (R : Rel K F G θ s σ H) {t : Tr} {v : V} {l : List Tr} (r : RpV K F θ σ t v) (h : seqT (s.deref t) = some l) : ∃ a xs, v = .ref a ∧ Rps K F θ l xs ∧
    ∀ H', FLe F H' → (t.pure = true ∨ FLe (ownG s σ G H) H') → if isTupT (s.deref t) = true then SqT K H' a xs else SqL K H' a xs := by
  have pureCase : ∀ {t t' : Tr}, Rp K F θ t v → seqT t = some l → ∃ a xs, v = .ref a ∧ Rps K F θ l xs ∧ ∀ H', FLe F H' → (t'.pure = true ∨ FLe (ownG s σ G H) H') → if isTupT t = true then SqT K H' a xs else SqL K H' a xs := by
    intro t t' r h
    cases r with
    | tup q r => cases h; exact ⟨_, _, rfl, r, fun H' f _ => by rw [if_pos (show isTupT (.tup _) = true from rfl)]; exact f.tup q⟩
    | lst q r => cases h; exact ⟨_, _, rfl, r, fun H' f _ => by rw [if_neg (by simp [isTupT])]; exact SqL.of (f _ _ q)⟩
    | flst q r => cases h; exact ⟨_, _, rfl, r, fun H' f _ => by rw [if_neg (by simp [isTupT])]; exact f.lst q⟩
    | _ => cases h
  cases t with
  | bor i =>
    have r' : σ[i]? = some (some v) := r
    cases e : s.env[i]? with
    | none => rw [deref_none e] at h; cases h
    | some x =>
      have q := R.slot i x e
      rw [deref_slot e] at h ⊢
      cases x with
      | none => cases h
      | val t =>
        obtain ⟨y, e1, q⟩ := q
        rw [r'] at e1
        cases e1
        exact pureCase q h
      | own l' =>
        obtain ⟨a, xs, e1, hh, _, _, _, q⟩ := q
        rw [r'] at e1
        cases e1
        cases h
        exact ⟨a, xs, rfl, q, fun H' _ g => by rw [if_neg (by simp [isTupT])]; exact SqL.of ((g.resolve_left (fun z => nomatch z)) _ _ ((ownG_of (s := s) e r').trans hh))⟩
  | _ => exact pureCase (r.rp rfl) h
theorem blB_ok {D : Ds} {gc : List Tr} {cf : CF} {X : Cx} {sc : Scope} (C : Cxt D gc cf X sc) {x y : Str} (h : blB D sc x y = true) : x = y ∧ Gl X x ∧ X.mg x = none := by
  unfold blB at h
  obtain ⟨h1, h2⟩ := and2 h
  obtain ⟨h1, h3⟩ := and2 h1
  exact ⟨of_decide_eq_true h1, C.glo _ h3, C.blt _ (of_decide_eq_true h2)⟩
theorem rgT_get {a b : Int} {i : Nat} (h : i < (b - a).toNat) : (rgT a b)[i]? = some (.int (a + i)) := by
  unfold rgT
  rw [List.getElem?_map, List.getElem?_range h]
  rfl
theorem rgT_len {a b : Int} : (rgT a b).length = (b - a).toNat := by unfold rgT; simp
theorem items_seq {ts : List Tr} {xs : List Tr} (h : items 0 ts = some xs) : ∃ t, ts = [t] ∧ seqT t = some xs := by
  unfold items at h
  split at h
  · exact ⟨_, rfl, h⟩
  all_goals first | (cases h; done) | contradiction
theorem items_rg1 {ts : List Tr} {xs : List Tr} (h : items 1 ts = some xs) : ∃ n, ts = [.int n] ∧ (-(2 ^ 62) ≤ n ∧ n < 2 ^ 62) ∧ xs = rgT 0 n := by
  unfold items at h
  split at h
  all_goals first
    | (cases h; done)
    | contradiction
    | (split at h
       · cases h; exact ⟨_, rfl, in62_ok (by assumption), rfl⟩
       · cases h)
theorem items_rg2 {ts : List Tr} {xs : List Tr} (h : items 2 ts = some xs) : ∃ a b, ts = [.int a, .int b] ∧ (-(2 ^ 62) ≤ a ∧ a < 2 ^ 62 ∧ -(2 ^ 62) ≤ b ∧ b < 2 ^ 62) ∧ xs = rgT a b := by
  unfold items at h
  split at h
  all_goals first
    | (cases h; done)
    | contradiction
    | (split at h
       · rename_i hb; cases h; obtain ⟨q1, q2⟩ := and2 hb; exact ⟨_, _, rfl, ⟨(in62_ok q1).1, (in62_ok q1).2, in62_ok q2⟩, rfl⟩
       · cases h)
theorem items_enum {ts : List Tr} {xs : List Tr} (h : items 3 ts = some xs) : ∃ t l, ts = [t] ∧ seqT t = some l ∧ xs = enumT l := by
  unfold items at h
  split at h
  all_goals first
    | (cases h; done)
    | contradiction
    | (obtain ⟨l, h1, h2⟩ := map_some h; exact ⟨_, l, rfl, h1, h2.symm⟩)
theorem items_zip {ts : List Tr} {xs : List Tr} (h : items 4 ts = some xs) : ∃ t u l m, ts = [t, u] ∧ seqT t = some l ∧ seqT u = some m ∧ xs = zipT l m ∧ isTupT t = isTupT u := by
  unfold items at h
  split at h
  all_goals first
    | (cases h; done)
    | contradiction
    | (cases h; exact ⟨_, _, _, _, rfl, rfl, rfl, rfl, rfl⟩)
theorem enumT_get {l : List Tr} {i : Nat} {t : Tr} (h : l[i]? = some t) : (enumT l)[i]? = some (.tup [.int i, t]) := by
  unfold enumT
  have hi : i < l.length := (List.getElem?_eq_some_iff.mp h).1
  rw [List.getElem?_zipWith, List.getElem?_range hi, h]
theorem enumT_len {l : List Tr} : (enumT l).length = l.length := by unfold enumT; simp
theorem zipT_get {l m : List Tr} {i : Nat} {t u : Tr} (h : l[i]? = some t) (h' : m[i]? = some u) : (zipT l m)[i]? = some (.tup [t, u]) := by
  unfold zipT
  rw [List.getElem?_zipWith, h, h']
theorem zipT_len {l m : List Tr} : (zipT l m).length = min l.length m.length := by unfold zipT; simp

section
variable {D : Ds} {gc : List Tr} {cf : CF} {X : Cx}
theorem two_le_line : 2 ≤ sizeLine := by decide
/-- what a loop walks -/
theorem sI {sc : Scope} (C : Cxt D gc cf X sc) {k : Nat} {tg : Tg} {tge iter : Expr} {its : List Ex} (hPE : ∀ e x, its = [e] → chk D X.N sc e x = true → PE X x (RE gc cf X.K e)) (hPA : ∀ xs, chks D X.N sc its xs = true → PA X xs (RA gc cf X.K its))
    (ht : chkT X.N sc tg tge = true ∨ ∃ N sc', chkT N sc' tg tge = true) (h : chkIt D X.N sc k tg its iter = true) : PI X tge iter (RI gc cf X.K k its) := by
  have tgTup : isTp tg = true → ∃ es kk pos, tge = .Tuple es kk pos := by
    intro hp
    obtain ⟨N, sc, ht⟩ : ∃ N sc', chkT N sc' tg tge = true := by
      rcases ht with z | z
      · exact ⟨_, _, z⟩
      · exact z
    cases tg with
    | nm i => cases hp
    | tp gs =>
      simp only [chkT] at ht
      split at ht
      · exact ⟨_, _, _, rfl⟩
      · cases ht
  refine ⟨fun pins s0 σ H R0 I q => ?_⟩
  obtain ⟨F, G, θ, s, vs, s1, xs, R, e, hp, hi, kk⟩ := q
  unfold chkIt at h
  split at h
  · -- a sequence
    obtain ⟨t, h1, h2⟩ := items_seq hi
    cases its with
    | nil => simp only [evEs] at e; cases e; cases h1
    | cons ee es =>
      simp only [chks] at h
      obtain ⟨h3, h4⟩ := and2 h
      obtain ⟨h3, h5⟩ := and2 h3
      cases es with
      | cons _ _ => exact nomatch h4
      | nil =>
        have pe := hPE ee iter rfl h5
        simp only [evEs] at e
        obtain ⟨t', s2, e1, e2⟩ := Rs.bind_eq e
        cases e2
        cases h1
        by_cases hT : isTupT (s1.deref t') = true
        · refine (pi_tup (tg := tge) pe).run pins s0 σ H R0 I ⟨F, G, θ, s, t', s1, R, e1, fun v H1 F1 θ1 R1 l1 p1 r1 => ?_⟩
          obtain ⟨a, ys, rfl, rr, st⟩ := R1.stable r1 h2
          have st' : ∀ H', FLe F1 H' → ([t'].all Tr.pure = true ∨ FLe (ownG s1 σ G H1) H') → SqT X.K H' a ys := fun H' f g => by have := st H' f (g.imp_left (by simp)); rw [if_pos hT] at this; exact this
          refine ⟨a, rfl, ⟨ys, st' H1 R1.m.fle (.inr R1.out.gle)⟩, kk _ H1 F1 θ1 R1 l1 p1 ?_⟩
          rw [← rr.length]
          refine (walk_tup (xs := ys)).mono (fun H' hh => st' H' hh.1 hh.2) fun i H' x H'' hi' _ y => ?_
          obtain ⟨t, g1, g2⟩ := rr.get' y.2
          exact ⟨t, g1, .inl ⟨y.1, g2⟩⟩
        · refine (pi_list (tg := tge) pe).run pins s0 σ H R0 I ⟨F, G, θ, s, t', s1, R, e1, fun v H1 F1 θ1 R1 l1 p1 r1 => ?_⟩
          obtain ⟨a, ys, rfl, rr, st⟩ := R1.stable r1 h2
          have st' : ∀ H', FLe F1 H' → ([t'].all Tr.pure = true ∨ FLe (ownG s1 σ G H1) H') → SqL X.K H' a ys := fun H' f g => by have := st H' f (g.imp_left (by simp)); rw [if_neg hT] at this; exact this
          refine ⟨a, rfl, ⟨ys, st' H1 R1.m.fle (.inr R1.out.gle)⟩, kk _ H1 F1 θ1 R1 l1 p1 ?_⟩
          rw [← rr.length]
          refine (walk_list (xs := ys)).mono (fun H' hh => st' H' hh.1 hh.2) fun i H' x H'' hi' _ y => ?_
          obtain ⟨t, g1, g2⟩ := rr.get' y.2
          exact ⟨t, g1, .inl ⟨y.1, g2⟩⟩
  · -- range(n)
    split at h
    · obtain ⟨h1, h2⟩ := and2 h
      obtain ⟨h1, h3⟩ := and2 h1
      obtain ⟨rfl, g1, g2⟩ := blB_ok C h1
      have hl := of_decide_eq_true h2
      obtain ⟨y, rfl⟩ := List.length_eq_one_iff.mp hl
      have pa := hPA _ h3
      obtain ⟨n, h4, h5, rfl⟩ := items_rg1 hi
      have hs : starEach [y] X.env = [(false, eval y X.env)] := by
        cases its with
        | nil => exact nomatch h3
        | cons _ _ =>
          simp only [chks] at h3
          exact star_cons (by simpa using (and2 (and2 h3).1).1)
      refine (pi_range1 (tg := tge) g1 g2 pa hs).run pins s0 σ H R0 I ⟨F, G, θ, s, vs, s1, R, e, fun ws H1 F1 θ1 R1 l1 p1 r1 => ?_⟩
      have rh := R1.reads r1 hp
      rw [h4] at rh
      cases rh with
      | cons q1 q2 =>
        cases q2
        cases intH q1
        refine ⟨n, rfl, h5.1, h5.2, kk _ H1 F1 θ1 R1 l1 p1 ?_⟩
        rw [rgT_len, Int.sub_zero]
        refine (walk_range (lo := 0)).mono (fun _ _ => trivial) fun i H' x H'' hi' _ y => ?_
        obtain ⟨y1, rfl⟩ := y
        exact ⟨_, rgT_get (by omega), .inl ⟨y1, .int _⟩⟩
    · cases h
  · -- range(a, b)
    split at h
    · obtain ⟨h1, h2⟩ := and2 h
      obtain ⟨h1, h3⟩ := and2 h1
      obtain ⟨rfl, g1, g2⟩ := blB_ok C h1
      have hl := of_decide_eq_true h2
      obtain ⟨y, z, rfl⟩ := len2 hl
      have pa := hPA _ h3
      obtain ⟨n, n', h4, h5, rfl⟩ := items_rg2 hi
      obtain ⟨hs, hs2⟩ : starEach [y, z] X.env = [(false, eval y X.env), (false, eval z X.env)] ∧ starEach [z] X.env = [(false, eval z X.env)] := by
        cases its with
        | nil => exact nomatch h3
        | cons _ es =>
          simp only [chks] at h3
          obtain ⟨h6, h7⟩ := and2 h3
          cases es with
          | nil => exact nomatch h7
          | cons _ _ =>
            simp only [chks] at h7
            have z1 : starEach [z] X.env = [(false, eval z X.env)] := star_cons (by simpa using (and2 (and2 h7).1).1)
            exact ⟨by rw [star_cons (by simpa using (and2 h6).1), z1], z1⟩
      refine (pi_range2 (tg := tge) g1 g2 pa hs hs2).run pins s0 σ H R0 I ⟨F, G, θ, s, vs, s1, R, e, fun ws H1 F1 θ1 R1 l1 p1 r1 => ?_⟩
      have rh := R1.reads r1 hp
      rw [h4] at rh
      cases rh with
      | cons q1 q2 =>
        cases q2 with
        | cons q2 q3 =>
          cases q3
          cases intH q1
          cases intH q2
          refine ⟨n, n', rfl, h5, kk _ H1 F1 θ1 R1 l1 p1 ?_⟩
          rw [rgT_len]
          refine (walk_range (lo := n)).mono (fun _ _ => trivial) fun i H' x H'' hi' _ y => ?_
          obtain ⟨y1, rfl⟩ := y
          exact ⟨_, rgT_get hi', .inl ⟨y1, .int _⟩⟩
    · cases h
  · -- enumerate
    obtain ⟨htp, h⟩ := and2 h
    obtain ⟨es, kk', pos, rfl⟩ := tgTup htp
    split at h
    · obtain ⟨h1, h2⟩ := and2 h
      obtain ⟨h1, h3⟩ := and2 h1
      obtain ⟨rfl, g1, g2⟩ := blB_ok C h1
      have hl := of_decide_eq_true h2
      obtain ⟨y, rfl⟩ := List.length_eq_one_iff.mp hl
      have pa := hPA _ h3
      obtain ⟨t, l, h4, h5, rfl⟩ := items_enum hi
      have hs : starEach [y] X.env = [(false, eval y X.env)] := by
        cases its with
        | nil => exact nomatch h3
        | cons _ _ =>
          simp only [chks] at h3
          exact star_cons (by simpa using (and2 (and2 h3).1).1)
      cases vs with
      | nil => cases h4
      | cons v0 vs =>
        rw [List.map_cons] at h4
        obtain ⟨h6, h7⟩ := List.cons.inj h4
        cases vs with
        | cons _ _ => cases h7
        | nil =>
          subst h6
          by_cases hT : isTupT (s1.deref v0) = true
          · refine (pi_enumT g1 g2 pa hs).run pins s0 σ H R0 I ⟨F, G, θ, s, _, s1, R, e, fun ws H1 F1 θ1 R1 l1 p1 r1 => ?_⟩
            cases r1 with
            | cons r1 r2 =>
              cases r2
              obtain ⟨a, ys, rfl, rr, st⟩ := R1.stable r1 h5
              have st' : ∀ H', FLe F1 H' → ([v0].all Tr.pure = true ∨ FLe (ownG s1 σ G H1) H') → SqT X.K H' a ys := fun H' f g => by have := st H' f (g.imp_left (by simp)); rw [if_pos hT] at this; exact this
              refine ⟨a, ys, rfl, st' H1 R1.m.fle (.inr R1.out.gle), kk _ H1 F1 θ1 R1 l1 p1 ?_⟩
              rw [enumT_len, ← rr.length]
              refine (walk_enumT (xs := ys)).mono (fun H' hh => st' H' hh.1 hh.2) fun i H' x H'' hi' _ y => ?_
              obtain ⟨T, x1, rfl, hT', rfl, y3⟩ := y
              obtain ⟨t1, g3, g4⟩ := rr.get' y3
              exact ⟨_, enumT_get g3, .inr ⟨T, _, _, hT', rfl, rfl, rfl, .cons (.int _) (.cons g4 .nil), two_le_line⟩⟩
          · refine (pi_enum g1 g2 pa hs).run pins s0 σ H R0 I ⟨F, G, θ, s, _, s1, R, e, fun ws H1 F1 θ1 R1 l1 p1 r1 => ?_⟩
            cases r1 with
            | cons r1 r2 =>
              cases r2
              obtain ⟨a, ys, rfl, rr, st⟩ := R1.stable r1 h5
              have st' : ∀ H', FLe F1 H' → ([v0].all Tr.pure = true ∨ FLe (ownG s1 σ G H1) H') → SqL X.K H' a ys := fun H' f g => by have := st H' f (g.imp_left (by simp)); rw [if_neg hT] at this; exact this
              refine ⟨a, ys, rfl, st' H1 R1.m.fle (.inr R1.out.gle), kk _ H1 F1 θ1 R1 l1 p1 ?_⟩
              rw [enumT_len, ← rr.length]
              refine (walk_enum (xs := ys)).mono (fun H' hh => st' H' hh.1 hh.2) fun i H' x H'' hi' _ y => ?_
              obtain ⟨T, x1, y1, rfl, hT', rfl, y2, y3⟩ := y
              cases y2
              obtain ⟨t1, g3, g4⟩ := rr.get' y3
              exact ⟨_, enumT_get g3, .inr ⟨T, _, _, hT', rfl, rfl, rfl, .cons (.int _) (.cons g4 .nil), two_le_line⟩⟩
    · cases h
  · -- zip
    obtain ⟨htp, h⟩ := and2 h
    obtain ⟨es, kk', pos, rfl⟩ := tgTup htp
    split at h
    · obtain ⟨h1, h2⟩ := and2 h
      obtain ⟨h1, h3⟩ := and2 h1
      obtain ⟨rfl, g1, g2⟩ := blB_ok C h1
      have hl := of_decide_eq_true h2
      obtain ⟨y, z, rfl⟩ := len2 hl
      have pa := hPA _ h3
      obtain ⟨t, u, l, m, h4, h5, h5', rfl, hsame⟩ := items_zip hi
      obtain ⟨hs, hs2⟩ : starEach [y, z] X.env = (false, eval y X.env) :: starEach [z] X.env ∧ starEach [z] X.env = [(false, eval z X.env)] := by
        cases its with
        | nil => exact nomatch h3
        | cons _ es =>
          simp only [chks] at h3
          obtain ⟨h6, h7⟩ := and2 h3
          cases es with
          | nil => exact nomatch h7
          | cons _ _ =>
            simp only [chks] at h7
            have z1 : starEach [z] X.env = [(false, eval z X.env)] := star_cons (by simpa using (and2 (and2 h7).1).1)
            exact ⟨star_cons (by simpa using (and2 h6).1), z1⟩
      cases vs with
      | nil => cases h4
      | cons v0 vs =>
        rw [List.map_cons] at h4
        obtain ⟨h6, h7⟩ := List.cons.inj h4
        cases vs with
        | nil => cases h7
        | cons v1 vs =>
          rw [List.map_cons] at h7
          obtain ⟨h10, h8⟩ := List.cons.inj h7
          cases vs with
          | cons _ _ => cases h8
          | nil =>
            subst h6 h10
            refine (RZ.pi_zipA g1 g2 pa hs (by rw [hs2]; rfl)).run pins s0 σ H R0 I ⟨F, G, θ, s, _, s1, R, e, fun ws H1 F1 θ1 R1 l1 p1 r1 => ?_⟩
            cases r1 with
            | cons r1 r2 =>
              cases r2 with
              | cons r2 r3 =>
                cases r3
                obtain ⟨a, ys, rfl, rr, st⟩ := R1.stable r1 h5
                obtain ⟨b, zs, rfl, rr', st2⟩ := R1.stable r2 h5'
                refine ⟨a, b, ys, zs, rfl, ?_⟩
                have yok : ∀ i H' x H'', i < min ys.length zs.length → YPair (fun i => ys[i]?) (fun i => zs[i]?) i H' x H'' → YOk X.K F1 θ1 (zipT l m) i H' x H'' := by
                  rintro i H' x H'' _ ⟨T, x1, y1, rfl, hT', rfl, y2, y3⟩
                  obtain ⟨t1, g3, g4⟩ := rr.get' y2
                  obtain ⟨t2, g5, g6⟩ := rr'.get' y3
                  exact ⟨_, zipT_get g3 g5, .inr ⟨T, _, _, hT', rfl, rfl, rfl, .cons g4 (.cons g6 .nil), two_le_line⟩⟩
                by_cases hT : isTupT (s1.deref v0) = true
                · have hT2 : isTupT (s1.deref v1) = true := hsame ▸ hT
                  have st' : ∀ H', FLe F1 H' ∧ ([v0, v1].all Tr.pure = true ∨ FLe (ownG s1 σ G H1) H') → SqT X.K H' a ys ∧ SqT X.K H' b zs := fun H' f => by
                    have z1 := st H' f.1 (f.2.imp_left (by simp; intro a _; exact a))
                    have z2 := st2 H' f.1 (f.2.imp_left (by simp))
                    rw [if_pos hT] at z1
                    rw [if_pos hT2] at z2
                    exact ⟨z1, z2⟩
                  obtain ⟨q1, q2⟩ := st' H1 ⟨R1.m.fle, .inr R1.out.gle⟩
                  refine .inr ⟨q1, q2, kk _ H1 F1 θ1 R1 l1 p1 ?_⟩
                  rw [zipT_len, ← rr.length, ← rr'.length]
                  refine ⟨fun i H' hi' hh => ?_, fun H' hh => ?_, fun i H' x H'' hi' hh yy => yok i H' x H'' hi' ?_⟩
                  · obtain ⟨w1, w2⟩ := st' H' hh
                    exact ⟨ys, zs, ys[i]'(by omega), zs[i]'(by omega), w1, w2, by simp, by simp⟩
                  · obtain ⟨w1, w2⟩ := st' H' hh
                    exact ⟨ys, zs, w1, w2, by omega⟩
                  · obtain ⟨w1, w2⟩ := st' H' hh
                    obtain ⟨T, x1, y1, e1, e2, e3, e4, e5⟩ := yy
                    exact ⟨T, x1, y1, e1, e2, e3, e4 ys w1, e5 zs w2⟩
                · have hT2 : ¬ isTupT (s1.deref v1) = true := hsame ▸ hT
                  have st' : ∀ H', FLe F1 H' ∧ ([v0, v1].all Tr.pure = true ∨ FLe (ownG s1 σ G H1) H') → SqL X.K H' a ys ∧ SqL X.K H' b zs := fun H' f => by
                    have z1 := st H' f.1 (f.2.imp_left (by simp; intro a _; exact a))
                    have z2 := st2 H' f.1 (f.2.imp_left (by simp))
                    rw [if_neg hT] at z1
                    rw [if_neg hT2] at z2
                    exact ⟨z1, z2⟩
                  obtain ⟨q1, q2⟩ := st' H1 ⟨R1.m.fle, .inr R1.out.gle⟩
                  refine .inl ⟨q1, q2, kk _ H1 F1 θ1 R1 l1 p1 ?_⟩
                  rw [zipT_len, ← rr.length, ← rr'.length]
                  exact (walk_zip (xs := ys) (ys := zs) rfl).mono (fun H' hh => st' H' hh) fun i H' x H'' hi' _ y => yok i H' x H'' hi' y
    · cases h
  · cases h
end
end Ev
/-! Soundness of expressions. -/
namespace Ev
open PySem PySem.Spec L2
open PyProof.Rows hiding St

def isBo : Expr → Bool
  | .BoolOp .. => true
  | _ => false
section
variable {D : Ds} {gc : List Tr} {cf : CF} {X : Cx}
/-- what is shown of an expression -/
structure Snd (gc : List Tr) (cf : CF) (X : Cx) (e : Ex) (ex : Expr) : Prop where
  pe : PE X ex (RE gc cf X.K e)
  pt : PT X ex (RT gc cf X.K e)
  pw : isBo ex = true → PW X ex (RT gc cf X.K e)
theorem Snd.mk1 {e : Ex} {ex : Expr} (h : PE X ex (RE gc cf X.K e)) (hb : isBo ex = false) (he : ∀ whole, isTrue ex X.env whole = (do let v ← whole; standAt ex.pos; holding [v] (truthy v))) (ev : ∀ s, evX gc cf e true s = fin true (evX gc cf e false s)) : Snd gc cf X e ex :=
  ⟨h, pt_of h he ev, fun z => by rw [hb] at z; cases z⟩
theorem fin_bl {r : Rs Tr} {b : Bool} {s' : Sta} (h : fin true r = .ok (.bl b) s') : ∃ x, r = .ok x s' ∧ truth (s'.deref x) = some b := by
  obtain ⟨x, s1, e2, e3⟩ := Rs.bind_eq h
  obtain ⟨e4, rfl⟩ := Rs.of_eq e3
  obtain ⟨b', e5, e6⟩ := map_some e4
  injection e6 with e6
  subst e6
  exact ⟨x, e2, e5⟩
theorem opC2_ok {o : Cp} {x y : Tr} {b : Bool} (h : opC2 o x y = some b) : x.pure = true ∧ y.pure = true ∧ opC o x y = some b := by
  unfold opC2 at h
  split at h
  · rename_i hh
    obtain ⟨h1, h2⟩ := and2 hh
    exact ⟨h1, h2, h⟩
  · cases h
variable {K : PySem.W.Frag} {F F' G H : Hp} {θ θ' : List Addr} {s : Sta} {σ : St}
theorem sBin {sc : Scope} (C : Cxt D gc cf X sc) {o : Op} {a b : Ex} {x y : Expr} {pos : Pos} (ha : PE X x (RE gc cf X.K a)) (hb : PE X y (RE gc cf X.K b)) : PE X (.BinOp x o.py y pos) (RE gc cf X.K (.bin o a b)) := by
  refine ⟨fun pins s0 σ H Q I h => ?_⟩
  obtain ⟨F, G, θ, s, t, s', R, ev, k⟩ := h
  simp only [evX, fin] at ev
  obtain ⟨x1, s1, e1, ev⟩ := Rs.bind_eq ev
  obtain ⟨y1, s2, e2, ev⟩ := Rs.bind_eq ev
  obtain ⟨e3, rfl⟩ := Rs.of_eq ev
  obtain ⟨n1, n2⟩ := opB_nb e3
  exact (pe_op (opB_ok e3) ha hb).run pins s0 σ H Q I ⟨F, G, θ, s, x1, s1, R, e1, fun v H1 F1 θ1 R1 l1 p1 r1 => ⟨F1, G, θ1, s1, y1, s2, R1, e2, fun w H2 F2 θ2 R2 l2 p2 r2 =>
    ⟨F2, G, θ2, s2, σ, R2, R2.read (r1.mono l2 p2) n1, R2.read r2 n2, fun u H' F' R' l' r' => k u H' F' θ2 R' (l1.trans (l2.trans l')) (p1.trans p2) (RpV.of r')⟩⟩⟩
theorem sCmp {sc : Scope} (C : Cxt D gc cf X sc) {o : Cp} {a b : Ex} {x y : Expr} {pos : Pos} (ha : PE X x (RE gc cf X.K a)) (hb : PE X y (RE gc cf X.K b)) (hm : behindInMarks o.py y = false) : Snd gc cf X (.cmp o a b) (.Compare x [o.py] [y] pos) := by
  have main : ∀ {md : Bool} {s s' : Sta} {t : Tr}, evX gc cf (.cmp o a b) md s = .ok t s' → ∃ x1 s1 y1 c, evX gc cf a false s = .ok x1 s1 ∧ evX gc cf b false s1 = .ok y1 s' ∧ opC2 o (s'.deref x1) (s'.deref y1) = some c ∧ t = .bl c := by
    intro md s s' t ev
    have e0 : ∃ c, ((evX gc cf a false s).bind fun x s1 => (evX gc cf b false s1).bind fun y s2 => Rs.of ((opC2 o (s2.deref x) (s2.deref y)).map Tr.bl) s2) = .ok (.bl c) s' ∧ t = .bl c := by
      have e9 : ∀ {t s'}, ((evX gc cf a false s).bind fun x s1 => (evX gc cf b false s1).bind fun y s2 => Rs.of ((opC2 o (s2.deref x) (s2.deref y)).map Tr.bl) s2) = .ok t s' → ∃ c, t = .bl c := by
        intro t s' ev
        obtain ⟨x1, s1, e1, ev⟩ := Rs.bind_eq ev
        obtain ⟨y1, s2, e2, ev⟩ := Rs.bind_eq ev
        obtain ⟨e3, rfl⟩ := Rs.of_eq ev
        obtain ⟨c, _, rfl⟩ := map_some e3
        exact ⟨c, rfl⟩
      cases md with
      | false =>
        simp only [evX, fin] at ev
        obtain ⟨c, rfl⟩ := e9 ev
        exact ⟨c, ev, rfl⟩
      | true =>
        simp only [evX] at ev
        obtain ⟨x, s1, e2, e3⟩ := Rs.bind_eq ev
        obtain ⟨e4, rfl⟩ := Rs.of_eq e3
        obtain ⟨c, rfl⟩ := e9 e2
        obtain ⟨b', e5, rfl⟩ := map_some e4
        cases e5
        exact ⟨_, e2, rfl⟩
    obtain ⟨c, ev2, rfl⟩ := e0
    obtain ⟨x1, s1, e1, ev3⟩ := Rs.bind_eq ev2
    obtain ⟨y1, s2, e2, ev4⟩ := Rs.bind_eq ev3
    obtain ⟨e3, rfl⟩ := Rs.of_eq ev4
    obtain ⟨c', e4, e5⟩ := map_some e3
    injection e5 with e5
    subst e5
    exact ⟨x1, s1, y1, _, e1, e2, e4, rfl⟩
  refine ⟨⟨fun pins s0 σ H Q I h => ?_⟩, ⟨fun pins s0 σ H Q I h => ?_⟩, fun z => nomatch z⟩
  · obtain ⟨F, G, θ, s, t, s', R, ev, k⟩ := h
    obtain ⟨x1, s1, y1, c, e1, e2, e3, rfl⟩ := main ev
    obtain ⟨n1, n2, e3⟩ := opC2_ok e3
    exact (pe_cmpR (opC_ok C.u64 e3) ha hb hm).run pins s0 σ H Q I ⟨F, G, θ, s, x1, s1, R, e1, fun v H1 F1 θ1 R1 l1 p1 r1 => ⟨F1, G, θ1, s1, y1, s', R1, e2, fun w H2 F2 θ2 R2 l2 p2 r2 =>
      ⟨F2, θ2, R2.m.fle, R2.read (r1.mono l2 p2) n1, R2.read r2 n2, k _ H2 F2 θ2 R2 (l1.trans l2) (p1.trans p2) (RpV.of (.bl c))⟩⟩⟩
  · obtain ⟨F, G, θ, s, b0, s', R, ev, k⟩ := h
    obtain ⟨x1, s1, y1, c, e1, e2, e3, e9⟩ := main ev
    cases e9
    obtain ⟨n1, n2, e3⟩ := opC2_ok e3
    exact (pt_cmpR (opC_ok C.u64 e3) ha hb hm).run pins s0 σ H Q I ⟨F, G, θ, s, x1, s1, R, e1, fun v H1 F1 θ1 R1 l1 p1 r1 => ⟨F1, G, θ1, s1, y1, s', R1, e2, fun w H2 F2 θ2 R2 l2 p2 r2 =>
      ⟨F2, θ2, R2.m.fle, R2.read (r1.mono l2 p2) n1, R2.read r2 n2, _, rfl, k H2 F2 θ2 R2 (l1.trans l2) (p1.trans p2)⟩⟩⟩
theorem sChain {sc : Scope} (C : Cxt D gc cf X sc) {o p : Cp} {a b c : Ex} {x y z : Expr} {pos : Pos} (ha : PE X x (RE gc cf X.K a)) (hb : PE X y (RE gc cf X.K b)) (hc : PE X z (RE gc cf X.K c)) (hm : lastMarks [o.py, p.py] [y, z] = false) : Snd gc cf X (.chain o p a b c) (.Compare x [o.py, p.py] [y, z] pos) := by
  have e9 : ∀ {s t s'}, evX gc cf (.chain o p a b c) false s = .ok t s' → ∃ r, t = .bl r := by
    intro s t s' ev
    simp only [evX, fin] at ev
    obtain ⟨x1, s1, e1, ev⟩ := Rs.bind_eq ev
    obtain ⟨y1, s2, e2, ev⟩ := Rs.bind_eq ev
    split at ev
    · obtain ⟨z1, s3, e3, ev⟩ := Rs.bind_eq ev
      obtain ⟨e3, rfl⟩ := Rs.of_eq ev
      obtain ⟨c, _, rfl⟩ := map_some e3
      exact ⟨c, rfl⟩
    · cases ev; exact ⟨false, rfl⟩
    · cases ev
  have e10 : ∀ {s : Sta} {b0 : Bool} {s' : Sta}, evX gc cf (.chain o p a b c) true s = .ok (.bl b0) s' → evX gc cf (.chain o p a b c) false s = .ok (.bl b0) s' := by
    intro s b0 s' ev
    have ev' : fin true (evX gc cf (.chain o p a b c) false s) = .ok (.bl b0) s' := by
      simp only [evX, fin] at ev ⊢
      exact ev
    obtain ⟨x, h1, h2⟩ := fin_bl ev'
    obtain ⟨r, rfl⟩ := e9 h1
    cases h2
    exact h1
  have rd : ∀ {σ : St} {H : Hp} {Q : VK}, RE gc cf X.K (.chain o p a b c) σ H Q → (∃ r r', OpR X (compareOp o.py) r ∧ OpR X (compareOp p.py) r' ∧ tChain r r' (RE gc cf X.K a) (RE gc cf X.K b) (RE gc cf X.K c) σ H Q) := by
    intro σ H Q h
    obtain ⟨F, G, θ, s, t, s', R, ev, k⟩ := h
    simp only [evX, fin] at ev
    obtain ⟨x1, s1, e1, ev⟩ := Rs.bind_eq ev
    obtain ⟨y1, s2, e2, ev⟩ := Rs.bind_eq ev
    split at ev
    · rename_i e3
      obtain ⟨z1, s3, e4, ev⟩ := Rs.bind_eq ev
      obtain ⟨e5, rfl⟩ := Rs.of_eq ev
      obtain ⟨d, e6, rfl⟩ := map_some e5
      obtain ⟨n1, n2, e3⟩ := opC2_ok e3
      obtain ⟨n3, n4, e6⟩ := opC2_ok e6
      refine ⟨_, _, opC_ok C.u64 e3, opC_ok C.u64 e6, F, G, θ, s, x1, s1, R, e1, fun v H1 F1 θ1 R1 l1 p1 r1 => ⟨F1, G, θ1, s1, y1, s2, R1, e2, fun w H2 F2 θ2 R2 l2 p2 r2 => ?_⟩⟩
      refine ⟨F2, θ2, R2.m.fle, R2.read (r1.mono l2 p2) n1, R2.read r2 n2, true, rfl, ?_⟩
      rw [if_pos rfl]
      exact ⟨F2, G, θ2, s2, z1, s3, R2, e4, fun u H3 F3 θ3 R3 l3 p3 r3 => ⟨F3, θ3, R3.m.fle, R3.read (r2.mono l3 p3) n3, R3.read r3 n4, k _ H3 F3 θ3 R3 (l1.trans (l2.trans l3)) (p1.trans (p2.trans p3)) (RpV.of (.bl _))⟩⟩
    · rename_i e3
      cases ev
      obtain ⟨n1, n2, e3⟩ := opC2_ok e3
      refine ⟨_, fun _ _ _ _ => False, opC_ok C.u64 e3, fun _ _ _ _ _ _ _ _ _ _ _ _ z => z.elim, F, G, θ, s, x1, s1, R, e1, fun v H1 F1 θ1 R1 l1 p1 r1 => ⟨F1, G, θ1, s1, y1, _, R1, e2, fun w H2 F2 θ2 R2 l2 p2 r2 => ?_⟩⟩
      refine ⟨F2, θ2, R2.m.fle, R2.read (r1.mono l2 p2) n1, R2.read r2 n2, false, rfl, ?_⟩
      rw [if_neg Bool.false_ne_true]
      exact k _ H2 F2 θ2 R2 (l1.trans l2) (p1.trans p2) (RpV.of (.bl _))
    · cases ev
  refine ⟨⟨fun pins s0 σ H Q I h => ?_⟩, ⟨fun pins s0 σ H Q I h => ?_⟩, fun z => nomatch z⟩
  · obtain ⟨r, r', o1, o2, h⟩ := rd h
    exact (pe_chain o1 o2 ha hb hc hm).run pins s0 σ H Q I h
  · obtain ⟨F, G, θ, s, b0, s', R, ev, k⟩ := h
    obtain ⟨r, r', o1, o2, h⟩ := rd (Q := fun v H' => ∃ c, v = .bl c ∧ Q c H') ⟨F, G, θ, s, _, s', R, e10 ev, fun v H' F' θ' R' l p rr => by
      cases (show Rp _ _ _ _ _ from rr)
      exact ⟨b0, rfl, k H' F' θ' R' l p⟩⟩
    exact (pt_chain o1 o2 ha hb hc hm).run pins s0 σ H Q I h
end
end Ev
/-! Soundness of expressions, the theorem. -/
namespace Ev
open PySem PySem.Spec L2
open PyProof.Rows hiding St
section
variable {D : Ds} {gc : List Tr} {cf : CF} {X : Cx} {K : PySem.W.Frag} {F F' G H : Hp} {θ θ' : List Addr} {s : Sta} {σ : St}
/-- the result is a truth value -/
theorem bl_only {r : Rs Tr} {f : Sta → Rs Tr} {g : Sta → Rs Tr} {t : Tr} {s' : Sta} (h : (r.bind fun x s1 => match x with
    | .bl true => f s1
    | .bl false => g s1
    | _ => .no) = .ok t s') : ∃ b s1, r = .ok (.bl b) s1 ∧ (if b = true then f s1 else g s1) = .ok t s' := by
  obtain ⟨x, s1, e1, e2⟩ := Rs.bind_eq h
  cases x with
  | bl b => cases b <;> exact ⟨_, s1, e1, e2⟩
  | _ => cases e2
theorem sAnd {a b : Ex} {x y : Expr} {r : List Expr} {pos : Pos} (ha : Snd gc cf X a x) (hb1 : r = [] → Snd gc cf X b y) (hb2 : r ≠ [] → Snd gc cf X b (.BoolOp .And (y :: r) pos)) : Snd gc cf X (.and_ a b) (.BoolOp .And (x :: y :: r) pos) := by
  have pe2 : PE X (.BoolOp .And (y :: r) pos) (RE gc cf X.K b) := by
    cases r with
    | nil => exact pe_one (hb1 rfl).pe
    | cons z w => exact (hb2 (by simp)).pe
  have pw2 : PW X (.BoolOp .And (y :: r) pos) (RT gc cf X.K b) := by
    cases r with
    | nil => exact pw_and1 (hb1 rfl).pt
    | cons z w => exact (hb2 (by simp)).pw rfl
  have pw : PW X (.BoolOp .And (x :: y :: r) pos) (RT gc cf X.K (.and_ a b)) := by
    refine ⟨fun wh pins s0 σ H Q I h => ?_⟩
    obtain ⟨F, G, θ, s, b0, s', R, ev, k⟩ := h
    simp only [evX] at ev
    obtain ⟨c, s1, e1, e2⟩ := bl_only ev
    refine (pw_and ha.pt pw2).run wh pins s0 σ H Q I ⟨F, G, θ, s, c, s1, R, e1, fun H1 F1 θ1 R1 l1 p1 => ?_⟩
    cases c with
    | true =>
      rw [if_pos rfl] at e2 ⊢
      exact ⟨F1, G, θ1, s1, b0, s', R1, e2, fun H2 F2 θ2 R2 l2 p2 => k H2 F2 θ2 R2 (l1.trans l2) (p1.trans p2)⟩
    | false =>
      rw [if_neg Bool.false_ne_true] at e2 ⊢
      cases e2
      exact k H1 F1 θ1 R1 l1 p1
  refine ⟨⟨fun pins s0 σ H Q I h => ?_⟩, pw.pt, fun _ => pw⟩
  obtain ⟨F, G, θ, s, t, s', R, ev, k⟩ := h
  simp only [evX] at ev
  obtain ⟨c, s1, e1, e2⟩ := bl_only ev
  refine (pe_and ha.pe pe2).run pins s0 σ H Q I ⟨F, G, θ, s, .bl c, s1, R, e1, fun v H1 F1 θ1 R1 l1 p1 r1 => ?_⟩
  cases (show Rp _ _ _ _ _ from r1)
  refine ⟨c, rfl, ?_⟩
  cases c with
  | true =>
    rw [if_pos rfl] at e2 ⊢
    exact ⟨F1, G, θ1, s1, t, s', R1, e2, fun w H2 F2 θ2 R2 l2 p2 r2 => k w H2 F2 θ2 R2 (l1.trans l2) (p1.trans p2) r2⟩
  | false =>
    rw [if_neg Bool.false_ne_true] at e2 ⊢
    cases e2
    exact k _ H1 F1 θ1 R1 l1 p1 (RpV.of (.bl false))
theorem bl_only' {r : Rs Tr} {f : Sta → Rs Tr} {g : Sta → Rs Tr} {t : Tr} {s' : Sta} (h : (r.bind fun x s1 => match x with
    | .bl false => f s1
    | .bl true => g s1
    | _ => .no) = .ok t s') : ∃ b s1, r = .ok (.bl b) s1 ∧ (if b = true then g s1 else f s1) = .ok t s' := by
  obtain ⟨x, s1, e1, e2⟩ := Rs.bind_eq h
  cases x with
  | bl b => cases b <;> exact ⟨_, s1, e1, e2⟩
  | _ => cases e2
theorem sOr {a b : Ex} {x y : Expr} {r : List Expr} {pos : Pos} (ha : Snd gc cf X a x) (hb1 : r = [] → Snd gc cf X b y) (hb2 : r ≠ [] → Snd gc cf X b (.BoolOp .Or (y :: r) pos)) : Snd gc cf X (.or_ a b) (.BoolOp .Or (x :: y :: r) pos) := by
  have pe2 : PE X (.BoolOp .Or (y :: r) pos) (RE gc cf X.K b) := by
    cases r with
    | nil => exact pe_one (hb1 rfl).pe
    | cons z w => exact (hb2 (by simp)).pe
  have pw2 : PW X (.BoolOp .Or (y :: r) pos) (RT gc cf X.K b) := by
    cases r with
    | nil => exact pw_or1 (hb1 rfl).pt
    | cons z w => exact (hb2 (by simp)).pw rfl
  have pw : PW X (.BoolOp .Or (x :: y :: r) pos) (RT gc cf X.K (.or_ a b)) := by
    refine ⟨fun wh pins s0 σ H Q I h => ?_⟩
    obtain ⟨F, G, θ, s, b0, s', R, ev, k⟩ := h
    simp only [evX] at ev
    obtain ⟨c, s1, e1, e2⟩ := bl_only' ev
    refine (pw_or ha.pt pw2).run wh pins s0 σ H Q I ⟨F, G, θ, s, c, s1, R, e1, fun H1 F1 θ1 R1 l1 p1 => ?_⟩
    cases c with
    | false =>
      rw [if_neg Bool.false_ne_true] at e2 ⊢
      exact ⟨F1, G, θ1, s1, b0, s', R1, e2, fun H2 F2 θ2 R2 l2 p2 => k H2 F2 θ2 R2 (l1.trans l2) (p1.trans p2)⟩
    | true =>
      rw [if_pos rfl] at e2 ⊢
      cases e2
      exact k H1 F1 θ1 R1 l1 p1
  refine ⟨⟨fun pins s0 σ H Q I h => ?_⟩, pw.pt, fun _ => pw⟩
  obtain ⟨F, G, θ, s, t, s', R, ev, k⟩ := h
  simp only [evX] at ev
  obtain ⟨c, s1, e1, e2⟩ := bl_only' ev
  refine (pe_or ha.pe pe2).run pins s0 σ H Q I ⟨F, G, θ, s, .bl c, s1, R, e1, fun v H1 F1 θ1 R1 l1 p1 r1 => ?_⟩
  cases (show Rp _ _ _ _ _ from r1)
  refine ⟨c, rfl, ?_⟩
  cases c with
  | false =>
    rw [if_neg Bool.false_ne_true] at e2 ⊢
    exact ⟨F1, G, θ1, s1, t, s', R1, e2, fun w H2 F2 θ2 R2 l2 p2 r2 => k w H2 F2 θ2 R2 (l1.trans l2) (p1.trans p2) r2⟩
  | true =>
    rw [if_pos rfl] at e2 ⊢
    cases e2
    exact k _ H1 F1 θ1 R1 l1 p1 (RpV.of (.bl true))
theorem bl_one {r : Rs Tr} {f : Bool → Sta → Rs Tr} {t : Tr} {s' : Sta} (h : (r.bind fun x s1 => match x with
    | .bl b => f b s1
    | _ => .no) = .ok t s') : ∃ b s1, r = .ok (.bl b) s1 ∧ f b s1 = .ok t s' := by
  obtain ⟨x, s1, e1, e2⟩ := Rs.bind_eq h
  cases x with
  | bl b => exact ⟨b, s1, e1, e2⟩
  | _ => cases e2
theorem sNot {a : Ex} {x : Expr} {pos : Pos} (ha : Snd gc cf X a x) : Snd gc cf X (.not_ a) (.UnaryOp .Not x pos) := by
  refine ⟨⟨fun pins s0 σ H Q I h => ?_⟩, ⟨fun pins s0 σ H Q I h => ?_⟩, fun z => nomatch z⟩
  · obtain ⟨F, G, θ, s, t, s', R, ev, k⟩ := h
    simp only [evX] at ev
    obtain ⟨c, s1, e1, e2⟩ := bl_one ev
    cases e2
    obtain ⟨x1, e3, e4⟩ := fin_bl e1
    exact (pe_notT ha.pe).run pins s0 σ H Q I ⟨F, G, θ, s, x1, _, R, e3, fun v H1 F1 θ1 R1 l1 p1 r1 => ⟨c, truth_ok R1.m.fle e4 (R1.read r1 (truth_nb e4)), k _ H1 F1 θ1 R1 l1 p1 (RpV.of (.bl _))⟩⟩
  · obtain ⟨F, G, θ, s, b0, s', R, ev, k⟩ := h
    simp only [evX] at ev
    obtain ⟨c, s1, e1, e2⟩ := bl_one ev
    cases e2
    exact (pt_not ha.pt).run pins s0 σ H Q I ⟨F, G, θ, s, c, _, R, e1, fun H1 F1 θ1 R1 l1 p1 => k H1 F1 θ1 R1 l1 p1⟩
theorem sIte {c a b : Ex} {z x y : Expr} {pos : Pos} (hc : Snd gc cf X c z) (ha : Snd gc cf X a x) (hb : Snd gc cf X b y) : Snd gc cf X (.ite c a b) (.IfExp z x y pos) := by
  refine ⟨⟨fun pins s0 σ H Q I h => ?_⟩, ⟨fun pins s0 σ H Q I h => ?_⟩, fun z => nomatch z⟩
  · obtain ⟨F, G, θ, s, t, s', R, ev, k⟩ := h
    simp only [evX] at ev
    obtain ⟨c0, s1, e1, e2⟩ := bl_only ev
    refine (pe_ifExp hc.pt ha.pe hb.pe).run pins s0 σ H Q I ⟨F, G, θ, s, c0, s1, R, e1, fun H1 F1 θ1 R1 l1 p1 => ?_⟩
    cases c0 with
    | true => exact ⟨F1, G, θ1, s1, t, s', R1, e2, fun w H2 F2 θ2 R2 l2 p2 r2 => k w H2 F2 θ2 R2 (l1.trans l2) (p1.trans p2) r2⟩
    | false => exact ⟨F1, G, θ1, s1, t, s', R1, e2, fun w H2 F2 θ2 R2 l2 p2 r2 => k w H2 F2 θ2 R2 (l1.trans l2) (p1.trans p2) r2⟩
  · obtain ⟨F, G, θ, s, t, s', R, ev, k⟩ := h
    simp only [evX] at ev
    obtain ⟨c0, s1, e1, e2⟩ := bl_only ev
    refine isTrue_IfExp (thn (hc.pt.run pins s0 σ H (fun d H1 => d = c0 ∧ ∃ F1 θ1, Rel X.K F1 G θ1 s1 σ H1 ∧ FLe F F1 ∧ θ <+: θ1) I ⟨F, G, θ, s, c0, s1, R, e1, fun H1 F1 θ1 R1 l1 p1 => ⟨rfl, F1, θ1, R1, l1, p1⟩⟩) fun d s2 hd => ?_)
    obtain ⟨H1, I1, hd, F1, θ1, R1, l1, p1⟩ := hd
    subst hd
    cases d with
    | true => exact ha.pt.run pins s2 σ H1 Q I1 ⟨F1, G, θ1, s1, t, s', R1, e2, fun H2 F2 θ2 R2 l2 p2 => k H2 F2 θ2 R2 (l1.trans l2) (p1.trans p2)⟩
    | false => exact hb.pt.run pins s2 σ H1 Q I1 ⟨F1, G, θ1, s1, t, s', R1, e2, fun H2 F2 θ2 R2 l2 p2 => k H2 F2 θ2 R2 (l1.trans l2) (p1.trans p2)⟩
theorem sSlot {i : Nat} {x : Str} {pos : Pos} (hN : X.N[i]? = some x) (hv : Vis X.env.scope x) (hk : okN x = true) : Snd gc cf X (.var i) (.Name x pos) := by
  obtain ⟨k1, k2⟩ := okN_ok hk
  refine Snd.mk1 ⟨fun pins s0 σ H Q I h => ?_⟩ rfl (fun _ => rfl) (fun s => by simp only [evX, fin])
  obtain ⟨F, G, θ, s, t, s', R, ev, k⟩ := h
  simp only [evX, fin] at ev
  have pe := pe_var (X := X) (i := i) (pos := pos) hN hv k1 k2
  split at ev
  · rename_i t' e
    cases ev
    obtain ⟨v, e1, q⟩ := R.slot i _ e
    exact pe.run pins s0 σ H Q I ⟨v, e1, k v H F θ R (FLe.refl F) (List.prefix_refl _) (RpV.of q)⟩
  · rename_i l e
    cases ev
    obtain ⟨a, xs, e1, q⟩ := R.slot i _ e
    exact pe.run pins s0 σ H Q I ⟨_, e1, k _ H F θ R (FLe.refl F) (List.prefix_refl _) e1⟩
  · cases ev
theorem sMv {i : Nat} {x : Str} {pos : Pos} (hN : X.N[i]? = some x) (hv : Vis X.env.scope x) (hk : okN x = true) : Snd gc cf X (.mv i) (.Name x pos) := by
  obtain ⟨k1, k2⟩ := okN_ok hk
  refine Snd.mk1 ⟨fun pins s0 σ H Q I h => ?_⟩ rfl (fun _ => rfl) (fun s => by simp only [evX, fin])
  obtain ⟨F, G, θ, s, t, s', R, ev, k⟩ := h
  simp only [evX, fin] at ev
  have pe := pe_var (X := X) (i := i) (pos := pos) hN hv k1 k2
  split at ev
  · rename_i l e
    cases ev
    obtain ⟨a, xs, e1, h, f, g, t, q⟩ := R.slot i _ e
    exact pe.run pins s0 σ H Q I ⟨_, e1, k _ H _ θ (R.freeze e e1 h q) (FLe.upd1 f) (List.prefix_refl _) (RpV.of (.lst upd_same (q.mono (FLe.upd1 f) (List.prefix_refl _))))⟩
  · cases ev
theorem sConst {t : Tr} {v : V} {e : Ex} {ex : Expr} (hp : PE X ex (tC v)) (hr : ∀ F θ, Rp X.K F θ t v) (he : ∀ s, evX gc cf e false s = .ok t s) (hb : isBo ex = false) (hi : ∀ whole, isTrue ex X.env whole = (do let v ← whole; standAt ex.pos; holding [v] (truthy v))) (ev : ∀ s, evX gc cf e true s = fin true (evX gc cf e false s)) : Snd gc cf X e ex := by
  refine Snd.mk1 ⟨fun pins s0 σ H Q I h => ?_⟩ hb hi ev
  obtain ⟨F, G, θ, s, t, s', R, e1, k⟩ := h
  rw [he] at e1
  cases e1
  exact hp.run pins s0 σ H Q I (k v H F θ R (FLe.refl F) (List.prefix_refl _) (RpV.of (hr F θ)))
theorem sGl {sc : Scope} (C : Cxt D gc cf X sc) {k : Nat} {x : Str} {pos : Pos} (h : D.gls[k]? = some x) (hg : Gl X x) (hk : okN x = true) : Snd gc cf X (.gl k) (.Name x pos) := by
  obtain ⟨k1, k2⟩ := okN_ok hk
  refine Snd.mk1 ⟨fun pins s0 σ H Q I hh => ?_⟩ rfl (fun _ => rfl) (fun s => by simp only [evX, fin])
  obtain ⟨F, G, θ, s, t, s', R, ev, kk⟩ := hh
  simp only [evX, fin] at ev
  obtain ⟨e1, rfl⟩ := Rs.of_eq ev
  obtain ⟨v, u, hm, r, rp⟩ := C.gl k t x e1 h
  exact (pe_glob hg hm r k1).run pins s0 σ H Q I (kk v H F θ R (FLe.refl F) (List.prefix_refl _) (RpV.of (rp.mono (fun a o z => by cases z) (List.nil_prefix))))
/-- displays -/
theorem all_pure {ts : List Tr} {n : Nat} (h : (ts.all Tr.pure && decide (ts.length ≤ n)) = true) : ts.all Tr.pure = true ∧ ts.length ≤ n := by
  obtain ⟨h1, h2⟩ := and2 h
  exact ⟨h1, of_decide_eq_true h2⟩
theorem sTup {es : List Ex} {xs : List Expr} {kk : Nat} {pos : Pos} (h : PA X xs (RA gc cf X.K es)) : Snd gc cf X (.tup es) (.Tuple xs kk pos) := by
  refine Snd.mk1 ⟨fun pins s0 σ H Q I hh => ?_⟩ rfl (fun _ => rfl) (fun s => by simp only [evX, fin])
  obtain ⟨F, G, θ, s, t, s', R, ev, k⟩ := hh
  simp only [evX, fin] at ev
  obtain ⟨ts, s1, e1, ev⟩ := Rs.bind_eq ev
  split at ev
  · rename_i hc
    obtain ⟨h1, h2⟩ := all_pure hc
    cases ev
    refine (pe_tup h).run pins s0 σ H Q I ⟨F, G, θ, s, ts, _, R, e1, fun vs H1 F1 θ1 R1 l1 p1 r1 => ?_⟩
    have r := r1.rps h1
    refine ⟨by rw [r.length]; exact h2, fun p np => ?_⟩
    have f := R1.m.fle.none np
    exact k _ _ _ θ1 (R1.newF np) (l1.trans (FLe.upd1 f)) p1 (RpV.of (.tup (SqT.of upd_same) (r.mono (FLe.upd1 f) (List.prefix_refl _))))
  · cases ev
theorem sLst {es : List Ex} {xs : List Expr} {pos : Pos} (h : PA X xs (RA gc cf X.K es)) : Snd gc cf X (.lst es) (.List xs pos) := by
  refine Snd.mk1 ⟨fun pins s0 σ H Q I hh => ?_⟩ rfl (fun _ => rfl) (fun s => by simp only [evX, fin])
  obtain ⟨F, G, θ, s, t, s', R, ev, k⟩ := hh
  simp only [evX, fin] at ev
  obtain ⟨ts, s1, e1, ev⟩ := Rs.bind_eq ev
  split at ev
  · rename_i hc
    obtain ⟨h1, h2⟩ := all_pure hc
    cases ev
    refine (pe_lst h).run pins s0 σ H Q I ⟨F, G, θ, s, ts, _, R, e1, fun vs H1 F1 θ1 R1 l1 p1 r1 => ?_⟩
    have r := r1.rps h1
    refine ⟨by rw [r.length]; exact h2, fun p np => ?_⟩
    have f := R1.m.fle.none np
    exact k _ _ _ θ1 (R1.newF np) (l1.trans (FLe.upd1 f)) p1 (RpV.of (.lst upd_same (r.mono (FLe.upd1 f) (List.prefix_refl _))))
  · cases ev
theorem sShd {es : List Ex} {xs : List Expr} {pos : Pos} (h : PA X xs (RA gc cf X.K es)) : Snd gc cf X (.shd es) (.List xs pos) := by
  refine Snd.mk1 ⟨fun pins s0 σ H Q I hh => ?_⟩ rfl (fun _ => rfl) (fun s => by simp only [evX, fin])
  obtain ⟨F, G, θ, s, t, s', R, ev, k⟩ := hh
  simp only [evX, fin] at ev
  obtain ⟨ts, s1, e1, ev⟩ := Rs.bind_eq ev
  split at ev
  · rename_i hc
    obtain ⟨h1, h2⟩ := all_pure hc
    cases ev
    refine (pe_lst h).run pins s0 σ H Q I ⟨F, G, θ, s, ts, s1, R, e1, fun vs H1 F1 θ1 R1 l1 p1 r1 => ?_⟩
    have r := r1.rps h1
    refine ⟨by rw [r.length]; exact h2, fun p np => ?_⟩
    have hl := R1.m.len
    refine k _ _ _ _ (R1.share np r) l1 (p1.trans (List.prefix_append _ _)) (RpV.of (.ob ?_))
    rw [hl]
    simp
  · cases ev
theorem sNeg {a : Ex} {x : Expr} {pos : Pos} (ha : PE X x (RE gc cf X.K a)) : Snd gc cf X (.neg a) (.UnaryOp .USub x pos) := by
  refine Snd.mk1 ⟨fun pins s0 σ H Q I hh => ?_⟩ rfl (fun _ => rfl) (fun s => by simp only [evX, fin])
  obtain ⟨F, G, θ, s, t, s', R, ev, k⟩ := hh
  simp only [evX, fin] at ev
  obtain ⟨x1, s1, e1, ev⟩ := Rs.bind_eq ev
  cases x1 with
  | int i =>
    cases ev
    refine (pe_un un_neg ha).run pins s0 σ H Q I ⟨F, G, θ, s, .int i, _, R, e1, fun v H1 F1 θ1 R1 l1 p1 r1 => ?_⟩
    cases (show Rp _ _ _ _ _ from r1)
    exact ⟨i, rfl, k _ H1 F1 θ1 R1 l1 p1 (RpV.of (.int _))⟩
  | _ => cases ev
theorem plainIx {y : Expr} (h : isSlice y = false) : PlainIx y := by
  intro o i
  cases y <;> first | rfl | (exact nomatch h)
theorem sIdx {a b : Ex} {x y : Expr} {pos : Pos} (ha : PE X x (RE gc cf X.K a)) (hb : PE X y (RE gc cf X.K b)) (hs : isSlice y = false) : Snd gc cf X (.idx a b) (.Subscript x y pos) := by
  refine Snd.mk1 ⟨fun pins s0 σ H Q I hh => ?_⟩ rfl (fun _ => rfl) (fun s => by simp only [evX, fin])
  obtain ⟨F, G, θ, s, t, s', R, ev, k⟩ := hh
  simp only [evX, fin] at ev
  obtain ⟨x1, s1, e1, ev⟩ := Rs.bind_eq ev
  obtain ⟨y1, s2, e2, ev⟩ := Rs.bind_eq ev
  refine (pe_ix ix_seq ha hb (plainIx hs)).run pins s0 σ H Q I ⟨F, G, θ, s, x1, s1, R, e1, fun v H1 F1 θ1 R1 l1 p1 r1 => ⟨F1, G, θ1, s1, y1, s2, R1, e2, fun w H2 F2 θ2 R2 l2 p2 r2 => ?_⟩⟩
  have fk : ∀ {t : Tr}, t = t → ∀ {s3 : Sta}, s3 = s2 → Fin X.K F2 G θ2 s2 σ t Q → Fin X.K F2 G θ2 s2 σ t Q := fun _ _ _ h => h
  split at ev
  · rename_i n e3
    split at ev
    · rename_i l e4
      obtain ⟨e5, rfl⟩ := Rs.of_eq ev
      have rd := R2.read (r1.mono l2 p2) (by rw [e3]; rfl)
      rw [e3] at rd
      have rd' : Rp X.K F2 θ2 (.ob n) v := rd
      cases rd' with
      | ob hn =>
        obtain ⟨a', q1, q2, q3, zs, q4, q5⟩ := R2.m.ob n _ e4
        rw [hn] at q1
        cases q1
        exact idxT_ok R2 e5 (show RpH X.K F2 θ2 H2 (.lst l) (.ref _) from ⟨_, zs, rfl, q4, q5⟩) r2 fun u H' F' R' l' r' => k u H' F' θ2 R' (l1.trans (l2.trans l')) (p1.trans p2) (RpV.of r')
    · cases ev
  · obtain ⟨e5, rfl⟩ := Rs.of_eq ev
    exact idxT_ok R2 e5 (R2.read (r1.mono l2 p2) (idxT_nb e5)) r2 fun u H' F' R' l' r' => k u H' F' θ2 R' (l1.trans (l2.trans l')) (p1.trans p2) (RpV.of r')
end
end Ev
/-! Soundness of expressions: slices, calls, built-ins. -/
namespace Ev
open PySem PySem.Spec L2
open PyProof.Rows hiding St
section
variable {D : Ds} {gc : List Tr} {cf : CF} {X : Cx} {K : PySem.W.Frag} {F F' G H : Hp} {θ θ' : List Addr} {s : Sta} {σ : St}
def evO (gc : List Tr) (cf : CF) (lo : Ex) (s : Sta) : Rs (Option Int) := if isNul lo = true then .ok none s else asInt (evX gc cf lo false s)
def RO (gc : List Tr) (cf : CF) (K : PySem.W.Frag) (lo : Ex) : TO := fun σ H Q => ∃ F G θ s o s', Rel K F G θ s σ H ∧ evO gc cf lo s = .ok o s' ∧ ∀ H' F' θ', Rel K F' G θ' s' σ H' → FLe F F' → θ <+: θ' → Q o H'
theorem sPart {lo : Ex} {l : Option Expr} (h : match l with
      | none => isNul lo = true
      | some l => isNul lo = false ∧ PE X l (RE gc cf X.K lo)) : PO X l (RO gc cf X.K lo) := by
  refine ⟨fun pins s0 σ H Q I hh => ?_⟩
  obtain ⟨F, G, θ, s, o, s', R, ev, k⟩ := hh
  unfold evO at ev
  cases l with
  | none =>
    rw [if_pos h] at ev
    cases ev
    exact po_none.run pins s0 σ H Q I (k H F θ R (FLe.refl F) (List.prefix_refl _))
  | some l =>
    obtain ⟨h1, h2⟩ := h
    rw [if_neg (by rw [h1]; exact Bool.false_ne_true)] at ev
    cases e : evX gc cf lo false s with
    | no => rw [e] at ev; cases ev
    | ok t s1 =>
      rw [e] at ev
      cases t with
      | int i =>
        cases ev
        refine (po_some h2).run pins s0 σ H Q I ⟨F, G, θ, s, .int i, _, R, e, fun v H1 F1 θ1 R1 l1 p1 r1 => ?_⟩
        cases (show Rp _ _ _ _ _ from r1)
        exact ⟨i, rfl, k H1 F1 θ1 R1 l1 p1⟩
      | _ => cases ev
theorem sSl {a lo hi : Ex} {x : Expr} {l h : Option Expr} {p2 pos : Pos} (ha : PE X x (RE gc cf X.K a)) (hl : PO X l (RO gc cf X.K lo)) (hh : PO X h (RO gc cf X.K hi)) : Snd gc cf X (.sl a lo hi) (.Subscript x (.Slice l h none p2) pos) := by
  refine Snd.mk1 ⟨fun pins s0 σ H Q I hh' => ?_⟩ rfl (fun _ => rfl) (fun s => by simp only [evX, fin])
  obtain ⟨F, G, θ, s, t, s', R, ev, k⟩ := hh'
  simp only [evX, fin] at ev
  obtain ⟨x1, s1, e1, ev⟩ := Rs.bind_eq ev
  obtain ⟨lo', s2, e2, ev⟩ := Rs.bind_eq ev
  obtain ⟨hi', s3, e3, ev⟩ := Rs.bind_eq ev
  obtain ⟨e4, rfl⟩ := Rs.of_eq ev
  refine (pe_slice (sl_tupA.or sl_list) ha hl hh).run pins s0 σ H Q I ⟨F, G, θ, s, x1, s1, R, e1, fun v H1 F1 θ1 R1 l1 p1 r1 => ⟨F1, G, θ1, s1, lo', s2, R1, e2, fun H2 F2 θ2 R2 l2 p2 => ⟨F2, G, θ2, s2, hi', _, R2, e3, fun H3 F3 θ3 R3 l3 p3 => ?_⟩⟩⟩
  exact slT_ok R3 e4 (R3.read (r1.mono (l2.trans l3) (p2.trans p3)) (slT_nb e4)) fun u H' F' R' l' r' => k u H' F' θ3 R' (l1.trans (l2.trans (l3.trans l'))) (p1.trans (p2.trans p3)) (RpV.of r')
theorem sCall {sc : Scope} (C : Cxt D gc cf X sc) {f : Nat} {es : List Ex} {xs : List Expr} {x : Str} {p pos : Pos} (hf : D.fns[f]? = some x) (hg : Gl X x) (hk : okN x = true) (h : PA X xs (RA gc cf X.K es)) (hc : chks D X.N sc es xs = true) : Snd gc cf X (.call f es) (.Call (.Name x p) xs [] pos) := by
  obtain ⟨k1, k2⟩ := okN_ok hk
  refine Snd.mk1 ⟨fun pins s0 σ H Q I hh => ?_⟩ rfl (fun _ => rfl) (fun s => by simp only [evX, fin])
  obtain ⟨F, G, θ, s, t, s', R, ev, k⟩ := hh
  simp only [evX, fin] at ev
  obtain ⟨ts, s1, e1, ev⟩ := Rs.bind_eq ev
  split at ev
  · rename_i hp
    split at ev
    · rename_i t' m e2
      cases ev
      obtain ⟨fa, fd, ps, kk, _, hm, kp, hb, hr, hF, hlen⟩ := C.fn f x hf ts s1.mem _ e2
      replace hb := hb.binds
      have rd : ∀ vs H1 F1 θ1, Rel X.K F1 G θ1 s1 σ H1 → FLe F F1 → θ <+: θ1 → RpVs X.K F1 θ1 σ ts vs → SpE X.K cf f ps.length (vs ++ []) H1 Q E0 := by
        intro vs H1 F1 θ1 R1 l1 p1 r1
        have r := r1.rps hp
        rw [List.append_nil]
        refine ⟨by rw [r.length, hlen], F1, ownG s1 σ G H1, θ1, ts, s1.mem, _, m, R1.out, r, e2, fun v H' F' θ' M l' p' rr => ?_⟩
        exact k v H' F' θ' (R1.back M l' p') (l1.trans l') (p1.trans p') (RpV.of rr)
      cases xs with
      | nil =>
        cases es with
        | cons _ _ => exact nomatch hc
        | nil =>
          simp only [evEs] at e1
          cases e1
          exact (pe_callG0 hF hr C.gd hg hm kp hb k1).run pins s0 σ H Q I (rd [] H F θ R (FLe.refl F) (List.prefix_refl _) .nil)
      | cons e es' =>
        cases es with
        | nil => exact nomatch hc
        | cons e0 es0 =>
          have hc' := hc
          simp only [chks] at hc'
          obtain ⟨h1, h2⟩ := and2 hc'
          obtain ⟨h1, h3⟩ := and2 h1
          exact (pe_callG hF hr C.gd hg hm kp hb h k1 (star_cons (by simpa using h1)) (chks_plain h2)).run pins s0 σ H Q I ⟨F, G, θ, s, ts, s1, R, e1, fun vs H1 F1 θ1 R1 l1 p1 r1 => rd vs H1 F1 θ1 R1 l1 p1 r1⟩
    · cases ev
  · cases ev
def HZ (g : List Value → List Value → List Value) : Prop := True
theorem chkK_facts {D : Ds} {N : List Str} {sc : Scope} {env : Env} {pos : Pos} : ∀ {es : List Ex} {ps : List Str} {kws : List Keyword}, chkK D N sc es ps kws = true →
    (backToKw pos (keywordEach kws env)).all (·.1.isSome) = true ∧ (backToKw pos (keywordEach kws env)).filterMap (·.1) = ps ∧ (backToKw pos (keywordEach kws env)).any (·.1.isNone) = false
  | [], ps, kws, h => by
    simp only [chkK] at h
    split at h
    · split at h
      · exact ⟨rfl, rfl, rfl⟩
      · cases h
    · cases h
  | e :: es, ps, kws, h => by
    cases ps with
    | nil => simp only [chkK] at h; cases h
    | cons p ps => cases kws with
      | nil => simp only [chkK] at h; cases h
      | cons kw kws =>
        obtain ⟨nm, x, kp⟩ := kw
        cases nm with
        | none => simp only [chkK] at h; cases h
        | some nm =>
        simp only [chkK] at h
        obtain ⟨h1, h2⟩ := and2 h
        obtain ⟨h1, h3⟩ := and2 h1
        obtain rfl := of_decide_eq_true h1
        obtain ⟨q1, q2, q3⟩ := chkK_facts (env := env) (pos := pos) h2
        refine ⟨?_, ?_, ?_⟩
        · show (true && (backToKw pos (keywordEach kws env)).all (·.1.isSome)) = true
          rw [q1]; rfl
        · show nm :: (backToKw pos (keywordEach kws env)).filterMap (·.1) = nm :: ps
          rw [q2]
        · show (false || (backToKw pos (keywordEach kws env)).any (·.1.isNone)) = false
          rw [q3]; rfl
theorem run_fnGK {k : Nat} {f : Addr} {fd : FuncData} {ps : List Str} {sp : Sp} {pins : List (Addr × Obj)} {σ : L2.St} {H : Hp} {s : Shared} {Q : VK} {us ws : List Value} {vs zs : List V} (F : FnG X.prog X.w X.K X.mg X.base k f fd ps sp) (hr : Room k X.A) (hgd : X.A.guards = some []) (hb : KB X.K fd ps)
    (I : Inv X pins σ H s) (r : Vals vs us) (rz : Vals zs ws) (h : sp (vs ++ zs) H Q E0) : wpAny (model X.prog X.w) X.A (call (.ref f) us ((ps.drop us.length).zip ws)) (EP X pins σ Q) X.xe s := by
  have r2 := r.append rz
  have hl : (us ++ ws).length = ps.length := by rw [← r2.length]; exact F.len _ _ _ _ h
  refine wpAny_call (codeAny_mono (F.run X.A X.stack s H ⟨us, (ps.drop us.length).zip ws⟩ (us ++ ws) (vs ++ zs) Q E0 hr hgd I.env0 (hb s us ws I.kIn hl) r2 h) fun rr s' hq => ?_)
  cases rr with
  | error e => exact False.elim hq
  | ok fl =>
    cases fl with
    | ret u => exact I.after hq
    | _ => exact False.elim hq
theorem RpVs.append {K : PySem.W.Frag} {F : Hp} {θ : List Addr} {σ : L2.St} : ∀ {ts us : List Tr} {vs ws : List V}, RpVs K F θ σ ts vs → RpVs K F θ σ us ws → RpVs K F θ σ (ts ++ us) (vs ++ ws)
  | _, _, _, _, .nil, h => h
  | _, _, _, _, .cons a b, h => .cons a (RpVs.append b h)
theorem RpVs.len {K : PySem.W.Frag} {F : Hp} {θ : List Addr} {σ : L2.St} : ∀ {ts : List Tr} {vs : List V}, RpVs K F θ σ ts vs → vs.length = ts.length
  | _, _, .nil => rfl
  | _, _, .cons _ b => by rw [List.length_cons, List.length_cons, b.len]
theorem evEs_len : ∀ {es : List Ex} {s s' : Sta} {ts : List Tr}, evEs gc cf es s = .ok ts s' → ts.length = es.length
  | [], s, s', ts, h => by simp only [evEs] at h; cases h; rfl
  | e :: es, s, s', ts, h => by
    simp only [evEs] at h
    obtain ⟨t, s1, e1, h⟩ := Rs.bind_eq h
    obtain ⟨us, s2, e2, h⟩ := Rs.bind_eq h
    cases h
    rw [List.length_cons, List.length_cons, evEs_len e2]
theorem sCallK {sc : Scope} (C : Cxt D gc cf X sc) {f : Nat} {es ks : List Ex} {xs : List Expr} {kws : List Keyword} {x : Str} {p pos : Pos} {ps0 : List Str} (hf : D.fns[f]? = some x) (hg : Gl X x) (hk : okN x = true) (h : PA X xs (RA gc cf X.K es)) (hc : chks D X.N sc es xs = true)
    (hp0 : D.pars[f]? = some ps0) (hkk : PK X kws (RA gc cf X.K ks)) (hck : chkK D X.N sc ks (ps0.drop es.length) kws = true) : Snd gc cf X (.callK f es ks) (.Call (.Name x p) xs kws pos) := by
  obtain ⟨k1, k2⟩ := okN_ok hk
  refine Snd.mk1 ⟨fun pins s0 σ H Q I hh => ?_⟩ rfl (fun _ => rfl) (fun s => by simp only [evX, fin])
  obtain ⟨F, G, θ, s, t, s', R, ev, k⟩ := hh
  simp only [evX, fin] at ev
  obtain ⟨ts, s1, e1, ev⟩ := Rs.bind_eq ev
  obtain ⟨us, s2, e2, ev⟩ := Rs.bind_eq ev
  split at ev
  · rename_i hp
    split at ev
    · rename_i t' m e3
      cases ev
      obtain ⟨fa, fd, ps, kk, hpar, hm, kp, hb, hr, hF, hlen⟩ := C.fn f x hf (ts ++ us) s2.mem _ e3
      rw [hp0] at hpar
      cases hpar
      obtain ⟨q1, q2, q3⟩ := chkK_facts (env := X.env) (pos := pos) hck
      have rd : ∀ vs H1 F1 θ1, Rel X.K F1 G θ1 s2 σ H1 → FLe F F1 → θ <+: θ1 → RpVs X.K F1 θ1 σ (ts ++ us) vs → SpE X.K cf f ps0.length vs H1 Q E0 := by
        intro vs H1 F1 θ1 R1 l1 p1 r1
        have r := r1.rps hp
        refine ⟨by rw [r.length, hlen], F1, ownG s2 σ G H1, θ1, _, s2.mem, _, m, R1.out, r, e3, fun v H' F' θ' M l' p' rr => ?_⟩
        exact k v H' F' θ' (R1.back M l' p') (l1.trans l') (p1.trans p') (RpV.of rr)
      have tl : ts.length = es.length := evEs_len e1
      refine wpAny_Call_Name_kw (ld_glob I hg hm ?_ k1)
      cases xs with
      | nil =>
        cases es with
        | cons _ _ => exact nomatch hc
        | nil =>
          simp only [evEs] at e1
          cases e1
          refine PySem.W.callWith_KW0 (h₀ := X.base) I.ok.mod.kin kp q1 (thn (hkk.run pos pins s0 σ H _ I ⟨F, G, θ, _, us, s2, R, e2, fun zs H2 F2 θ2 R2 l2 p2 r2 => (⟨F2, θ2, R2, l2, p2, r2⟩ : ∃ F2 θ2, Rel X.K F2 G θ2 s2 σ H2 ∧ FLe F F2 ∧ θ <+: θ2 ∧ RpVs X.K F2 θ2 σ us zs)⟩) fun ws s3 ⟨zs, H2, I2, rz, F2, θ2, R2, l2, p2, r2⟩ => ⟨I2.kIn, ?_⟩) (by show (false || _) = false; rw [q3]; rfl)
          rw [q2]
          exact run_fnGK (us := []) (vs := []) hF hr C.gd hb I2 .nil rz (rd _ H2 F2 θ2 R2 l2 p2 r2)
      | cons e es' =>
        cases es with
        | nil => exact nomatch hc
        | cons e0 es0 =>
          have hc' := hc
          simp only [chks] at hc'
          obtain ⟨h1, h2⟩ := and2 hc'
          obtain ⟨h1, h3⟩ := and2 h1
          have hst := star_cons (es := es') (env := X.env) (by simpa using h1)
          have hpl : ((backTo pos (starEach (e :: es') X.env)).any (·.1) || (backToKw pos (keywordEach kws X.env)).any (·.1.isNone)) = false := by
            rw [q3, chks_plain hc]; rfl
          refine PySem.W.callWith_KW (h₀ := X.base) I.ok.mod.kin kp q1 (thn (h.run pos pins s0 σ H _ I ⟨F, G, θ, s, ts, s1, R, e1, fun vs H1 F1 θ1 R1 l1 p1 r1 => (⟨F1, θ1, R1, l1, p1, r1⟩ : ∃ F1 θ1, Rel X.K F1 G θ1 s1 σ H1 ∧ FLe F F1 ∧ θ <+: θ1 ∧ RpVs X.K F1 θ1 σ ts vs)⟩) fun u1 s3 ⟨vs, H1, I1, r, F1, θ1, R1, l1, p1, r1⟩ => ?_) hpl hst
          refine thn (hkk.run pos pins s3 σ H1 _ I1 ⟨F1, G, θ1, s1, us, s2, R1, e2, fun zs H2 F2 θ2 R2 l2 p2 r2 => (⟨F2, θ2, R2, l2, p2, r2⟩ : ∃ F2 θ2, Rel X.K F2 G θ2 s2 σ H2 ∧ FLe F1 F2 ∧ θ1 <+: θ2 ∧ RpVs X.K F2 θ2 σ us zs)⟩) fun ws s4 ⟨zs, H2, I2, rz, F2, θ2, R2, l2, p2, r2⟩ => ⟨I2.kIn, ?_⟩
          have lu : u1.length = (e0 :: es0).length := by rw [← r.length, r1.len, tl]
          rw [q2, ← lu]
          exact run_fnGK hF hr C.gd hb I2 r rz (rd _ H2 F2 θ2 R2 (l1.trans l2) (p1.trans p2) ((r1.mono l2 p2).append r2))
    · cases ev
  · cases ev
theorem biT_nil {b : Bi} : biT b [] = none := by cases b <;> rfl
theorem sBiF {sc : Scope} (C : Cxt D gc cf X sc) {b : Bi} {es : List Ex} {xs : List Expr} {p pos : Pos} {id : String} (hid : b.fnId = some id) (hg : Gl X b.nm) (hm : X.mg b.nm = none) (h : PA X xs (RA gc cf X.K es)) (hc : chks D X.N sc es xs = true) : Snd gc cf X (.bi b es) (.Call (.Name b.nm p) xs [] pos) := by
  refine Snd.mk1 ⟨fun pins s0 σ H Q I hh => ?_⟩ rfl (fun _ => rfl) (fun s => by simp only [evX, fin])
  obtain ⟨F, G, θ, s, t, s', R, ev, k⟩ := hh
  simp only [evX, fin] at ev
  obtain ⟨ts, s1, e1, ev⟩ := Rs.bind_eq ev
  split at ev
  · rename_i hp
    obtain ⟨e2, rfl⟩ := Rs.of_eq ev
    cases es with
    | nil => simp only [evEs] at e1; cases e1; rw [List.map_nil, biT_nil] at e2; cases e2
    | cons e0 es0 =>
      cases xs with
      | nil => exact nomatch hc
      | cons x0 xs0 =>
        have hc' := hc
        simp only [chks] at hc'
        obtain ⟨h1, h2⟩ := and2 hc'
        obtain ⟨h1, h3⟩ := and2 h1
        refine (pe_callB (biT_fn C.calm C.gd C.un hid e2) hg hm (fn_boot hid) h (nm_ne b) (nm_db b) (star_cons (by simpa using h1)) (chks_plain h2)).run pins s0 σ H Q I ⟨F, G, θ, s, ts, _, R, e1, fun vs H1 F1 θ1 R1 l1 p1 r1 => ?_⟩
        exact ⟨F1, G, θ1, _, σ, R1, R1.reads r1 hp, fun u H' F' R' l' r' => k u H' F' θ1 R' (l1.trans l') p1 (RpV.of r')⟩
  · cases ev
theorem sBiT {sc : Scope} {b : Bi} {es : List Ex} {xs : List Expr} {p pos : Pos} {id : String} (hid : b.tyId = some id) (hg : Gl X b.nm) (hm : X.mg b.nm = none) (h : PA X xs (RA gc cf X.K es)) (hc : chks D X.N sc es xs = true) : Snd gc cf X (.bi b es) (.Call (.Name b.nm p) xs [] pos) := by
  refine Snd.mk1 ⟨fun pins s0 σ H Q I hh => ?_⟩ rfl (fun _ => rfl) (fun s => by simp only [evX, fin])
  obtain ⟨F, G, θ, s, t, s', R, ev, k⟩ := hh
  simp only [evX, fin] at ev
  obtain ⟨ts, s1, e1, ev⟩ := Rs.bind_eq ev
  split at ev
  · rename_i hp
    obtain ⟨e2, rfl⟩ := Rs.of_eq ev
    cases es with
    | nil => simp only [evEs] at e1; cases e1; rw [List.map_nil, biT_nil] at e2; cases e2
    | cons e0 es0 =>
      cases xs with
      | nil => exact nomatch hc
      | cons x0 xs0 =>
        have hc' := hc
        simp only [chks] at hc'
        obtain ⟨h1, h2⟩ := and2 hc'
        obtain ⟨h1, h3⟩ := and2 h1
        refine (pe_callTy (biT_ty hid e2) hg hm (ty_boot hid) h (nm_ne b) (nm_db b) (star_cons (by simpa using h1)) (chks_plain h2)).run pins s0 σ H Q I ⟨F, G, θ, s, ts, _, R, e1, fun vs H1 F1 θ1 R1 l1 p1 r1 => ?_⟩
        exact ⟨F1, G, θ1, _, σ, R1, R1.reads r1 hp, fun u H' F' R' l' r' => k u H' F' θ1 R' (l1.trans l') p1 (RpV.of r')⟩
  · cases ev
theorem boot_tys : bootBuiltins "int" = some (.type "int") ∧ bootBuiltins "bool" = some (.type "bool") ∧ bootBuiltins "str" = some (.type "str") ∧ bootBuiltins "tuple" = some (.type "tuple") := ⟨by decide +kernel, by decide +kernel, by decide +kernel, by decide +kernel⟩
theorem sBiI {sc : Scope} (C : Cxt D gc cf X sc) {b : Bi} {es : List Ex} {z : Expr} {y : Str} {p q pos : Pos} {id : String} (hid : b.isTy = some id) (hg : Gl X b.nm) (hm : X.mg b.nm = none) (hy : Gl X y) (hmy : X.mg y = none) (hby : bootBuiltins y = some (.type id)) (hny : y ≠ "__name__") (hdy : (y == ("__debug__" : Str)) = false)
    (h : PA X [z] (RA gc cf X.K es)) (hp1 : ∀ e, es = [e] → PE X z (RE gc cf X.K e)) (hc : chks D X.N sc es [z] = true) : Snd gc cf X (.bi b es) (.Call (.Name b.nm p) [z, .Name y q] [] pos) := by
  refine Snd.mk1 ⟨fun pins s0 σ H Q I hh => ?_⟩ rfl (fun _ => rfl) (fun s => by simp only [evX, fin])
  obtain ⟨F, G, θ, s, t, s', R, ev, k⟩ := hh
  simp only [evX, fin] at ev
  obtain ⟨ts, s1, e1, ev⟩ := Rs.bind_eq ev
  split at ev
  · rename_i hp
    obtain ⟨e2, rfl⟩ := Rs.of_eq ev
    cases es with
    | nil => exact nomatch hc
    | cons e0 es0 =>
      simp only [chks] at hc
      obtain ⟨h1, h2⟩ := and2 hc
      obtain ⟨h1, h3⟩ := and2 h1
      cases es0 with
      | cons _ _ => exact nomatch h2
      | nil =>
        have hst := star_cons (es := [.Name y q]) (env := X.env) (e := z) (by simpa using h1)
        simp only [evEs] at e1
        obtain ⟨t0, s2, e3, e4⟩ := Rs.bind_eq e1
        cases e4
        have nb : b.nm = "isinstance" := by cases b <;> first | rfl | cases hid
        have bt : bootBuiltins b.nm = some (.builtin "isinstance") := by rw [nb]; decide +kernel
        refine (pe_callB (biT_is hid e2) hg hm bt (pa_cons (hp1 e0 rfl) (pa_cons (pe_bltn (v := .ty id) hy hmy hby (show RelV (.ty id) (.type id) from rfl) hny hdy) pa_nil (by rfl)) hst) (nm_ne b) (nm_db b) hst (by rfl)).run pins s0 σ H Q I ⟨F, G, θ, s, t0, _, R, e3, fun v H1 F1 θ1 R1 l1 p1 r1 => ?_⟩
        exact ⟨v, rfl, F1, G, θ1, _, σ, R1, R1.reads (.cons r1 .nil) hp, fun u H' F' R' l' r' => k u H' F' θ1 R' (l1.trans l') p1 (RpV.of r')⟩
  · cases ev
theorem listRg_eq {x t : Tr} (h : biT .listRg [x] = some t) : ∃ n, x = .int n ∧ (0 ≤ n ∧ n ≤ 16777216) ∧ t = .lst (rgT 0 n) := by
  cases x with
  | int n =>
    simp only [biT] at h
    split at h
    · rename_i hb
      cases h
      obtain ⟨q1, q2⟩ := and2 hb
      have q1 := of_decide_eq_true q1
      have q2 := Nat.le_of_ble_eq_true q2
      exact ⟨n, rfl, ⟨q1, by omega⟩, rfl⟩
    · cases h
  | _ => exact nomatch h
theorem map_rps {α : Type} {f : α → Tr} {g : α → V} (h : ∀ a, Rp K F θ (f a) (g a)) : ∀ l : List α, Rps K F θ (l.map f) (l.map g)
  | [] => .nil
  | a :: l => .cons (h a) (map_rps h l)
theorem rgT_rps (a b : Int) : Rps K F θ (rgT a b) (rgV a b) := map_rps (fun _ => .int _) _
theorem sListRg {sc : Scope} (C : Cxt D gc cf X sc) {es : List Ex} {y0 : Expr} {p q pos pos2 : Pos} (hg : Gl X "list") (hm : X.mg "list" = none) (hg2 : Gl X "range") (hm2 : X.mg "range" = none) (hp1 : ∀ e, es = [e] → PE X y0 (RE gc cf X.K e)) (hc : chks D X.N sc es [y0] = true) :
    Snd gc cf X (.bi .listRg es) (.Call (.Name "list" p) [.Call (.Name "range" q) [y0] [] pos2] [] pos) := by
  refine Snd.mk1 ⟨fun pins s0 σ H Q I hh => ?_⟩ rfl (fun _ => rfl) (fun s => by simp only [evX, fin])
  obtain ⟨F, G, θ, s, t, s', R, ev, k⟩ := hh
  simp only [evX, fin] at ev
  obtain ⟨ts, s1, e1, ev⟩ := Rs.bind_eq ev
  split at ev
  · rename_i hp
    obtain ⟨e2, rfl⟩ := Rs.of_eq ev
    cases es with
    | nil => exact nomatch hc
    | cons e0 es0 =>
      simp only [chks] at hc
      obtain ⟨h1, h2⟩ := and2 hc
      obtain ⟨h1, h3⟩ := and2 h1
      cases es0 with
      | cons _ _ => exact nomatch h2
      | nil =>
        have hst := star_cons (es := []) (env := X.env) (e := y0) (by simpa using h1)
        simp only [evEs] at e1
        obtain ⟨t0, s2, e3, e4⟩ := Rs.bind_eq e1
        cases e4
        refine (pe_listRg C.calm hg hm (prg_1 hg2 hm2 (hp1 e0 rfl) hst)).run pins s0 σ H Q I ⟨F, G, θ, s, t0, _, R, e3, fun v H1 F1 θ1 R1 l1 p1 r1 => ?_⟩
        simp only [List.map_cons, List.map_nil] at e2 hp
        have rr := R1.read r1 (by simpa using hp)
        obtain ⟨n, e5, e6, rfl⟩ := listRg_eq e2
        rw [e5] at rr
        cases intH rr
        exact ⟨n, rfl, RgOk.of_le (Int.le_refl 0) e6.2 (by decide) e6.1, fun l hl => Fin.lst (fun u H' F' R' l' r' => k u H' F' θ1 R' (l1.trans l') p1 (RpV.of r')) R1 hl (rgT_rps 0 n)⟩
  · cases ev
theorem last_rps {l : List Tr} {xs : List V} {t : Tr} (r : Rps K F θ l xs) (h : l.getLast? = some t) : ∃ v, xs[xs.length - 1]? = some v ∧ Rp K F θ t v := by
  rw [List.getLast?_eq_getElem?] at h
  obtain ⟨v, e, q⟩ := r.get h
  exact ⟨v, by rw [r.length]; exact e, q⟩
theorem sPop {i : Nat} {x : Str} {ap p2 pos : Pos} (hN : X.N[i]? = some x) (hv : Vis X.env.scope x) (hk : okN x = true) (hl : (ap.endLine == pos.line) = true) : Snd gc cf X (.pop i) (.Call (.Attribute (.Name x p2) "pop" ap) [] [] pos) := by
  obtain ⟨k1, k2⟩ := okN_ok hk
  refine Snd.mk1 ⟨fun pins s0 σ H Q I hh => ?_⟩ rfl (fun _ => rfl) (fun s => by simp only [evX, fin])
  obtain ⟨F, G, θ, s, t, s', R, ev, k⟩ := hh
  simp only [evX, fin] at ev
  split at ev
  · rename_i l e
    split at ev
    · rename_i t' e2
      cases ev
      obtain ⟨a, xs, e1, h, f, g, tt, q⟩ := R.slot i _ e
      obtain ⟨v, e3, r⟩ := last_rps q e2
      refine (pe_bm0 PySem.F.plainAttrs_list PySem.F.slot_list_pop PySem.F.type_list_pop mt_pop (pe_var (i := i) hN hv k1 k2) (by rfl) hl).run pins s0 σ H Q I ⟨_, e1, .inl ⟨rfl, _, SqL.of h⟩, a, xs, v, rfl, rfl, h, e3, ?_⟩
      exact k v _ F θ (R.ownUpd e e1 q.dropLast) (FLe.refl F) (List.prefix_refl _) (RpV.of r)
    · cases ev
  · cases ev
end
end Ev
/-! Soundness of expressions: comprehensions, the theorem. -/
namespace Ev
open PySem PySem.Spec L2
open PyProof.Rows hiding St
section
variable {D : Ds} {gc : List Tr} {cf : CF} {X : Cx} {K : PySem.W.Frag} {F F' G H : Hp} {θ θ' : List Addr} {s : Sta} {σ : St}
theorem RelM.gth {m : List Ob} (M : RelM K F G θ m H) {a : Addr} {o : HO} (e : G a = some o) : a ∉ θ := fun hm => by
  obtain ⟨n, hn⟩ := List.getElem?_of_mem hm
  have hlt : n < θ.length := (List.getElem?_eq_some_iff.mp hn).1
  obtain ⟨b, q1, q2, q3, _⟩ := M.ob n (m[n]'(by rw [M.len]; exact hlt)) (by simp)
  rw [hn] at q1
  cases q1
  rw [e] at q3
  cases q3
theorem RelM.junk {m : List Ob} {p : Addr} {o : HO} (R : RelM K F G θ m H) (n : H p = none) : RelM K F G θ m (upd H p o) := by
  refine ⟨R.fle.new n, R.gle.new n, R.fg, R.len, R.nd, fun k u e => ?_⟩
  obtain ⟨a, h1, h2, h3, h4⟩ := R.ob k u e
  refine ⟨a, h1, h2, h3, ?_⟩
  cases u
  obtain ⟨xs, q, r⟩ := h4
  exact ⟨xs, by rw [upd_ne (ne_of_none q n)]; exact q, r⟩
/-- one more thing is guarded -/
theorem RelM.guard {m : List Ob} {D : Addr} {o : HO} (R : RelM K F G θ m H) (h : H D = some o) (f : F D = none) (t : D ∉ θ) : RelM K F (upd G D o) θ m H := by
  refine ⟨R.fle, fun a u e => ?_, fun a u e => ?_, R.len, R.nd, fun k u e => ?_⟩
  · by_cases z : a = D
    · subst z; rw [upd_same] at e; cases e; exact h
    · rw [upd_ne z] at e; exact R.gle a u e
  · by_cases z : a = D
    · subst z; exact f
    · rw [upd_ne z] at e; exact R.fg a u e
  · obtain ⟨a, h1, h2, h3, h4⟩ := R.ob k u e
    have ne : a ≠ D := fun z => t (z ▸ List.mem_of_getElem? h1)
    exact ⟨a, h1, h2, by rw [upd_ne ne]; exact h3, h4⟩
/-- it is let go and changed -/
theorem RelM.unguard {m : List Ob} {D : Addr} {o o' : HO} (R : RelM K F (upd G D o) θ m H) (g : G D = none) : RelM K F G θ m (upd H D o') := by
  have f : F D = none := R.fg D o upd_same
  have t : D ∉ θ := R.gth upd_same
  refine ⟨fun a u e => ?_, fun a u e => ?_, fun a u e => ?_, R.len, R.nd, fun k u e => ?_⟩
  · rw [upd_ne (ne_of_none e f)]; exact R.fle a u e
  · have ne : a ≠ D := ne_of_none e g
    rw [upd_ne ne]
    exact R.gle a u (by rw [upd_ne ne]; exact e)
  · exact R.fg a u (by rw [upd_ne (ne_of_none e g)]; exact e)
  · obtain ⟨a, h1, h2, h3, h4⟩ := R.ob k u e
    have ne : a ≠ D := fun z => t (z ▸ List.mem_of_getElem? h1)
    exact ⟨a, h1, h2, by rw [upd_ne ne] at h3; exact h3, by rw [upd_ne ne]; exact h4⟩
theorem RelM.letgo {m : List Ob} {D : Addr} {o : HO} (R : RelM K F (upd G D o) θ m H) (g : G D = none) : RelM K F G θ m H := by
  refine ⟨R.fle, fun a u e => R.gle a u (by rw [upd_ne (ne_of_none e g)]; exact e), fun a u e => R.fg a u (by rw [upd_ne (ne_of_none e g)]; exact e), R.len, R.nd, fun k u e => ?_⟩
  obtain ⟨a, h1, h2, h3, h4⟩ := R.ob k u e
  have ne : a ≠ D := fun z => R.gth (a := D) upd_same (z ▸ List.mem_of_getElem? h1)
  exact ⟨a, h1, h2, by rw [upd_ne ne] at h3; exact h3, h4⟩
theorem wipeE_len {env : List Slot} : ∀ own : List Nat, (wipeE env own).length = env.length
  | [] => rfl
  | v :: vs => by unfold wipeE; rw [List.length_set, wipeE_len vs]
theorem wipeE_get {env : List Slot} {i : Nat} {x : Slot} : ∀ {own : List Nat}, (wipeE env own)[i]? = some x → x = .none ∨ (env[i]? = some x ∧ i ∉ own)
  | [], h => .inr ⟨h, by simp⟩
  | v :: vs, h => by
    unfold wipeE at h
    rcases get_set h with ⟨_, e, _⟩ | ⟨ne, h⟩
    · exact .inl e
    · rcases wipeE_get h with z | ⟨z1, z2⟩
      · exact .inl z
      · exact .inr ⟨z1, by simp only [List.mem_cons, not_or]; exact ⟨fun e => ne e.symm, z2⟩⟩
/-- a block's state -/
theorem Rel.block {G2 H2 : Hp} {m : List Ob} {own : List Nat} (R : Rel K F G θ s σ H) (M : RelM K F' G2 θ' m H2) (hF : FLe F F') (hθ : θ <+: θ') (hG : FLe (ownG s σ G H) G2) : Rel K F' G2 θ' ⟨wipeE (s.env.map Slot.lock) own, m⟩ (wipe σ own) H2 := by
  have noOwn : ∀ (i : Nat) l, (wipeE (s.env.map Slot.lock) own)[i]? ≠ some (.own l) := fun i l h => by
    rcases wipeE_get h with z | ⟨z, _⟩
    · cases z
    · rw [List.getElem?_map] at z
      cases e : s.env[i]? with
      | none => rw [e] at z; cases z
      | some x =>
        rw [e] at z
        have z' : x.lock = .own l := Option.some.inj z
        cases x <;> cases z'
  refine ⟨M, by rw [wipeE_len, List.length_map, wipe_length]; exact R.len, fun i x e => ?_, fun i j l l' a e => absurd e (noOwn i l)⟩
  rcases wipeE_get e with rfl | ⟨z, hi⟩
  · exact trivial
  · rw [wipe_out hi]
    rw [List.getElem?_map] at z
    cases e1 : s.env[i]? with
    | none => rw [e1] at z; cases z
    | some y =>
      rw [e1] at z
      have z' : y.lock = x := Option.some.inj z
      have r := R.slot i y e1
      cases y with
      | none => cases z'; exact trivial
      | val t => cases z'; obtain ⟨w, e2, q⟩ := r; exact ⟨w, e2, q.mono hF hθ⟩
      | own l =>
        cases z'
        exact trivial
theorem lookup_relS_free {sc : Scope} : ∀ {names : List (Str × NameKind)} {x : Str}, names.lookup x = some .free →
    (names.map fun (n, k) => if (k == NameKind.free && sc.kind == .function && sc.names.lookup n == some .cell) then (n, NameKind.cell) else (n, k)).lookup x = some .free ∨
    (names.map fun (n, k) => if (k == NameKind.free && sc.kind == .function && sc.names.lookup n == some .cell) then (n, NameKind.cell) else (n, k)).lookup x = some .cell
  | [], _, h => by simp at h
  | (n, k) :: r, x, h => by
    have ih := @lookup_relS_free sc r x
    rw [List.map_cons]
    simp only
    cases hx : x == n with
    | true =>
      simp only [List.lookup_cons, hx] at h
      cases h
      split
      · exact .inr (by simp only [List.lookup_cons, hx])
      · exact .inl (by simp only [List.lookup_cons, hx])
    | false =>
      simp only [List.lookup_cons, hx] at h
      split
      · simp only [List.lookup_cons, hx]; exact ih h
      · simp only [List.lookup_cons, hx]; exact ih h
theorem compF_eq {tg : Tg} {env0 : List Slot} {cnd el : Sta → Rs Tr} {x : Tr} {m : List Ob} {r : Option Tr × List Ob} (h : compF tg env0 cnd el x m = some r) : ∃ env1 s2, asg tg x env0 = some env1 ∧
    ((cnd ⟨env1, m⟩ = .ok (.bl true) s2 ∧ ∃ y s3, el s2 = .ok y s3 ∧ y.pure = true ∧ r = (some y, s3.mem)) ∨ (cnd ⟨env1, m⟩ = .ok (.bl false) s2 ∧ r = (none, s2.mem))) := by
  unfold compF at h
  split at h
  · rename_i env1 e1
    split at h
    · rename_i s2 e2
      split at h
      · rename_i y s3 e3
        split at h
        · cases h
          exact ⟨env1, s2, e1, .inl ⟨e2, y, s3, e3, by assumption, rfl⟩⟩
        · cases h
      · cases h
    · rename_i s2 e2
      cases h
      exact ⟨env1, s2, e1, .inr ⟨e2, rfl⟩⟩
    · cases h
  · cases h
theorem wipe_in {i : Nat} : ∀ {vs : List Nat} {σ : St}, i ∈ vs → i < σ.length → (wipe σ vs)[i]? = some none
  | v :: vs, σ, h, hl => by
    unfold wipe
    by_cases e : v = i
    · subst e
      rw [List.getElem?_set_self (by rw [wipe_length]; exact hl)]
    · rw [List.getElem?_set_ne e]
      rcases List.mem_cons.mp h with z | z
      · exact absurd z.symm e
      · exact wipe_in z hl
theorem wipe_wipe {vs : List Nat} {σ : St} : wipe (wipe σ vs) vs = wipe σ vs := by
  apply List.ext_getElem?
  intro i
  by_cases h : i ∈ vs
  · by_cases hl : i < σ.length
    · rw [wipe_in h (by rw [wipe_length]; exact hl), wipe_in h hl]
    · rw [List.getElem?_eq_none (by rw [wipe_length, wipe_length]; omega), List.getElem?_eq_none (by rw [wipe_length]; omega)]
  · rw [wipe_out h]
theorem compRead {K : PySem.W.Frag} {k : Nat} {elt cond : Ex} {tg : Tg} {its : List Ex} {own : List Nat} {tt : TT} (hin : tgIn own tg = true)
    (hC2 : ∀ {σ : St} {H : Hp} {Q : Bool → Hp → Prop} {F G : Hp} {θ : List Addr} {s : Sta} {b : Bool} {s' : Sta}, Rel K F G θ s σ H → (if isNul cond then .ok (.bl true) s else evX gc cf cond true s) = .ok (.bl b) s' → (∀ H' F' θ', Rel K F' G θ' s' σ H' → FLe F F' → θ <+: θ' → Q b H') → tt σ H Q)
    {σ : St} {H : Hp} {Q : VK} (hh : RE gc cf K (.comp k elt tg its cond own) σ H Q) : tLc (RI gc cf K k its) (RG K tg) tt (RE gc cf K elt) own σ H Q := by
  obtain ⟨F, G, θ, s, t, s', R, ev, kk⟩ := hh
  simp only [evX, fin] at ev
  obtain ⟨vs, s1, e1, ev⟩ := Rs.bind_eq ev
  split at ev
  · rename_i xs hi
    split at hi
    · rename_i hp
      split at ev
      · rename_i ys mf ec
        cases ev
        refine ⟨F, G, θ, s, vs, s1, xs, R, e1, hp, hi, fun J H1 F1 θ1 R1 l1 p1 wk => fun Da nD => ?_⟩
        have gD : ownG s1 σ G H1 Da = none := R1.out.gle.none nD
        refine lc_it wk (fun i H' => ∃ F' θ' m acc av, RelM K F' (ownG s1 σ G H1) θ' m H' ∧ FLe F1 F' ∧ θ1 <+: θ' ∧ H' Da = some (.lst av) ∧ Rps K F' θ' acc av ∧ F' Da = none ∧ Da ∉ θ' ∧
          compGo (compF tg (wipeE (s1.env.map Slot.lock) own) (fun s => if isNul cond then .ok (.bl true) s else evX gc cf cond true s) (fun s => evX gc cf elt false s)) (xs.drop i) m acc = some (ys, mf)) ?_ ?_ ?_ ?_
        · have fD := R1.m.fle.none nD
          have tD : Da ∉ θ1 := fun hm => by
            obtain ⟨n, hn⟩ := List.getElem?_of_mem hm
            have hlt : n < θ1.length := (List.getElem?_eq_some_iff.mp hn).1
            obtain ⟨b, q1, q2, q3, q4⟩ := R1.m.ob n (s1.mem[n]'(by rw [R1.m.len]; exact hlt)) (by simp)
            rw [hn] at q1
            cases q1
            cases q5 : (s1.mem[n]'(by rw [R1.m.len]; exact hlt))
            rw [q5] at q4
            obtain ⟨zs, q, _⟩ := q4
            rw [nD] at q
            cases q
          exact ⟨F1, θ1, s1.mem, [], [], R1.out.junk nD, FLe.refl _, List.prefix_refl _, upd_same, .nil, fD, tD, ec⟩
        · rintro i H' _ ⟨F', θ', m, acc, av, M, l', _⟩
          exact ⟨l'.trans M.fle, .inr M.gle⟩
        · rintro i x H' H'' hlt ⟨F', θ', m, acc, av, M, l', p', hD, ra, fD, tD, eg⟩ ⟨t, ht, hy⟩
          have ed : xs.drop i = t :: xs.drop (i + 1) := by
            obtain ⟨h1, h2⟩ := List.getElem?_eq_some_iff.mp ht
            rw [List.drop_eq_getElem_cons h1, h2]
          rw [ed] at eg
          simp only [compGo] at eg
          have M2 := M.guard hD fD tD
          obtain ⟨F2, lF2, M3, rt⟩ : ∃ F2, FLe F' F2 ∧ RelM K F2 (upd (ownG s1 σ G H1) Da (.lst av)) θ' m H'' ∧ Rp K F2 θ' t x := by
            rcases hy with ⟨rfl, rr⟩ | ⟨p, l, ws, np, rfl, rfl, rfl, rr, _⟩
            · exact ⟨F', FLe.refl _, M2, rr.mono l' p'⟩
            · have fp := M2.fle.none np
              exact ⟨_, FLe.upd1 fp, M2.newF np, .tup (SqT.of upd_same) (rr.mono (l'.trans (FLe.upd1 fp)) p')⟩
          cases ef : compF tg (wipeE (s1.env.map Slot.lock) own) (fun s => if isNul cond then .ok (.bl true) s else evX gc cf cond true s) (fun s => evX gc cf elt false s) t m with
          | none => rw [ef] at eg; cases eg
          | some r =>
            rw [ef] at eg
            obtain ⟨env1, s2, ea, hcase⟩ := compF_eq ef
            have RB := R1.block (own := own) M3 (l'.trans lF2) p' (FLe.upd1 gD)
            refine ⟨F2, _, θ', _, m, t, env1, RB, rt, ea, fun σ2 R2 hw => ⟨(hw own hin).trans wipe_wipe, ?_⟩⟩
            rcases hcase with ⟨ecnd, y, s3, eel, py, rfl⟩ | ⟨ecnd, rfl⟩ <;> dsimp only at eg
            · refine hC2 R2 ecnd fun H3 F3 θ3 R3 l3 p3 => ?_
              rw [if_pos rfl]
              refine ⟨F3, _, θ3, s2, y, s3, R3, eel, fun v H4 F4 θ4 R4 l4 p4 r4 => ?_⟩
              have hD4 : H4 Da = some (.lst av) := R4.m.gle Da _ upd_same
              have lF4 : FLe F' F4 := lF2.trans (l3.trans l4)
              have pθ4 : θ' <+: θ4 := p3.trans p4
              split at eg
              · rename_i hsz
                refine ⟨av, hD4, by rw [ra.length]; exact hsz, F4, θ4, s3.mem, acc ++ [y], av ++ [v], R4.m.unguard gD, l'.trans lF4, p'.trans pθ4, upd_same, (ra.mono lF4 pθ4).append (.cons (r4.rp py) .nil), R4.m.fg Da _ upd_same, R4.m.gth (a := Da) upd_same, eg⟩
              · cases eg
            · refine hC2 R2 ecnd fun H3 F3 θ3 R3 l3 p3 => ?_
              rw [if_neg Bool.false_ne_true]
              exact ⟨F3, θ3, s2.mem, acc, av, R3.m.letgo gD, l'.trans (lF2.trans l3), p'.trans p3, R3.m.gle Da _ upd_same, ra.mono (lF2.trans l3) p3, R3.m.fg Da _ upd_same, R3.m.gth (a := Da) upd_same, eg⟩
        · rintro H' ⟨F', θ', m, acc, av, M, l', p', hD, ra, fD, tD, eg⟩
          rw [List.drop_length] at eg
          simp only [compGo] at eg
          cases eg
          have B := R1.back M l' p'
          refine kk _ H' _ θ' (B.fix hD fD (R1.m.gle.none nD) tD fun i l e z => ?_) (l1.trans (l'.trans (FLe.upd1 fD))) (p1.trans p') (RpV.of (.lst upd_same (ra.mono (FLe.upd1 fD) (List.prefix_refl _))))
          obtain ⟨zs, q, _⟩ := R1.ownAt e z
          rw [nD] at q
          cases q
      · cases ev
    · cases hi
  · cases ev
theorem sComp {sc : Scope} (C : Cxt D gc cf X sc) {k : Nat} {elt cond : Ex} {tg : Tg} {its : List Ex} {own : List Nat} {e' tg' iter : Expr} {ifs : List Expr} {scope : Scope} {pos : Pos} {tt : TT} (hI : PI X tg' iter (RI gc cf X.K k its)) (hb : blkC X.N sc scope (own.map fun i => (X.N.getD i "", i)) = true)
    (hS : isSetE iter = false) (hin : tgIn own tg = true) (hE : ∀ X' : Cx, Cxt D gc cf X' scope → X'.N = X.N → X'.K = X.K → Snd gc cf X' elt e') (hT : chkT X.N scope tg tg' = true)
    (hC1 : ∀ X' : Cx, Cxt D gc cf X' scope → X'.N = X.N → X'.K = X.K → PTs X' ifs tt)
    (hC2 : ∀ {σ : St} {H : Hp} {Q : Bool → Hp → Prop} {F G : Hp} {θ : List Addr} {s : Sta} {b : Bool} {s' : Sta}, Rel X.K F G θ s σ H → (if isNul cond then .ok (.bl true) s else evX gc cf cond true s) = .ok (.bl b) s' → (∀ H' F' θ', Rel X.K F' G θ' s' σ H' → FLe F F' → θ <+: θ' → Q b H') → tt σ H Q) :
    Snd gc cf X (.comp k elt tg its cond own) (.ListComp e' [⟨tg', iter, ifs, 0⟩] scope pos) := by
  have bx : ∀ (s : Shared) (H : Hp) (Ca : Addr) (cl : List (Str × Addr)) (fp : List Addr), Cxt D gc cf (X.blk s H scope (compEnvC scope cl Ca X.env) fp) scope := fun s H Ca cl fp => by
    have keep : ∀ x k, k ≠ .free → scope.names.lookup x = some k → (compEnvC scope cl Ca X.env).scope.names.lookup x = some k := fun x k hk h => lookup_relS_keep (sc := X.env.scope) hk h
    have free : ∀ x, scope.names.lookup x = some .free → (compEnvC scope cl Ca X.env).scope.names.lookup x = some .free ∨ (compEnvC scope cl Ca X.env).scope.names.lookup x = some .cell := fun x h => lookup_relS_free (sc := X.env.scope) h
    refine ⟨C.nd, C.calm, C.gd, rfl, fun x h => ?_, fun x h => ?_, fun x h => ?_, fun sc2 own2 h => ?_, C.gl, C.blt, C.un, C.fn⟩
    · rcases visB_ok h with z | z | z
      · exact .inl (keep x _ (by decide) z)
      · exact .inr (.inl (keep x _ (by decide) z))
      · rcases free x z with q | q
        · exact .inr (.inr q)
        · exact .inr (.inl q)
    · rcases locB_ok h with z | z
      · exact ⟨.inl (keep x _ (by decide) z), .inr (keep x _ (by decide) z)⟩
      · refine ⟨.inr (keep x _ (by decide) z), .inl ?_⟩
        show (scope.names.lookup x == some .cell) = true
        rw [z]
        rfl
    · unfold glB at h
      split at h
      · rename_i z
        exact keep x _ (by decide) z
      · cases h
    · have b := blkOk_by h
      refine ⟨b.kind, b.uniq, b.ix, fun y hy e => ?_, b.own⟩
      rcases b.free y hy e with z | z
      · exact .inl (keep _ _ (by decide) z)
      · rcases free _ z with q | q
        · exact .inr q
        · exact .inl q
  have hs : ∀ x, foldedSetIterable iter X.env x = pure x := fun x => by cases iter <;> first | rfl | (exact nomatch hS)
  have P := pe_lc (g := RG X.K tg) (tt := tt) (te := RE gc cf X.K elt) (pos := pos) C.calm C.nd hI (C.blk _ _ hb)
    (fun s H Ca cl fp => sT (X := X.blk s H scope (compEnvC scope cl Ca X.env) fp) C.nd C.calm (bx s H Ca cl fp).loc tg tg' hT)
    (fun s H Ca cl fp => hC1 _ (bx s H Ca cl fp) rfl rfl) (fun s H Ca cl fp => (hE _ (bx s H Ca cl fp) rfl rfl).pe) hs
  have eo : (own.map fun i => (X.N.getD i "", i)).map (·.2) = own := by rw [List.map_map]; simp [Function.comp_def]
  rw [eo] at P
  exact Snd.mk1 ⟨fun pins s0 σ H Q I hh => P.run pins s0 σ H Q I (compRead hin hC2 hh)⟩ rfl (fun _ => rfl) (fun s => by simp only [evX, fin])
theorem sSetComp {sc : Scope} (C : Cxt D gc cf X sc) {k : Nat} {elt cond : Ex} {tg : Tg} {its : List Ex} {own : List Nat} {e' tg' iter : Expr} {ifs : List Expr} {scope : Scope} {pos : Pos} {tt : TT} (hI : PI X tg' iter (RI gc cf X.K k its)) (hb : blkC X.N sc scope (own.map fun i => (X.N.getD i "", i)) = true)
    (hS : isSetE iter = false) (hin : tgIn own tg = true) (hE : ∀ X' : Cx, Cxt D gc cf X' scope → X'.N = X.N → X'.K = X.K → Snd gc cf X' elt e') (hT : chkT X.N scope tg tg' = true)
    (hC1 : ∀ X' : Cx, Cxt D gc cf X' scope → X'.N = X.N → X'.K = X.K → PTs X' ifs tt)
    (hC2 : ∀ {σ : St} {H : Hp} {Q : Bool → Hp → Prop} {F G : Hp} {θ : List Addr} {s : Sta} {b : Bool} {s' : Sta}, Rel X.K F G θ s σ H → (if isNul cond then .ok (.bl true) s else evX gc cf cond true s) = .ok (.bl b) s' → (∀ H' F' θ', Rel X.K F' G θ' s' σ H' → FLe F F' → θ <+: θ' → Q b H') → tt σ H Q)
    {i : Nat} {y : Str} {py spos : Pos} (hy : X.N[i]? = some y) (hyl : X.env.scope.names.lookup y = some .local) (hsw : swapsWith (.ListComp e' [⟨tg', iter, ifs, 0⟩] scope pos) (some (.Name y py)) spos.line X.env = pure true) :
    ∃ t, PS X (.Assign [.Name y py] (.ListComp e' [⟨tg', iter, ifs, 0⟩] scope pos) spos) (tAsg t (gName i)) ∧ ∀ {σ : St} {H : Hp} {Q : VK}, RE gc cf X.K (.comp k elt tg its cond own) σ H Q → t σ H Q := by
  have bx : ∀ (s : Shared) (H : Hp) (Ca : Addr) (cl : List (Str × Addr)) (fp : List Addr), Cxt D gc cf (X.blk s H scope (compEnvC scope cl Ca X.env) fp) scope := fun s H Ca cl fp => by
    have keep : ∀ x k, k ≠ .free → scope.names.lookup x = some k → (compEnvC scope cl Ca X.env).scope.names.lookup x = some k := fun x k hk h => lookup_relS_keep (sc := X.env.scope) hk h
    have free : ∀ x, scope.names.lookup x = some .free → (compEnvC scope cl Ca X.env).scope.names.lookup x = some .free ∨ (compEnvC scope cl Ca X.env).scope.names.lookup x = some .cell := fun x h => lookup_relS_free (sc := X.env.scope) h
    refine ⟨C.nd, C.calm, C.gd, rfl, fun x h => ?_, fun x h => ?_, fun x h => ?_, fun sc2 own2 h => ?_, C.gl, C.blt, C.un, C.fn⟩
    · rcases visB_ok h with z | z | z
      · exact .inl (keep x _ (by decide) z)
      · exact .inr (.inl (keep x _ (by decide) z))
      · rcases free x z with q | q
        · exact .inr (.inr q)
        · exact .inr (.inl q)
    · rcases locB_ok h with z | z
      · exact ⟨.inl (keep x _ (by decide) z), .inr (keep x _ (by decide) z)⟩
      · refine ⟨.inr (keep x _ (by decide) z), .inl ?_⟩
        show (scope.names.lookup x == some .cell) = true
        rw [z]
        rfl
    · unfold glB at h
      split at h
      · rename_i z
        exact keep x _ (by decide) z
      · cases h
    · have b := blkOk_by h
      refine ⟨b.kind, b.uniq, b.ix, fun y hy e => ?_, b.own⟩
      rcases b.free y hy e with z | z
      · exact .inl (keep _ _ (by decide) z)
      · rcases free _ z with q | q
        · exact .inr q
        · exact .inl q
  have hs : ∀ x, foldedSetIterable iter X.env x = pure x := fun x => by cases iter <;> first | rfl | (exact nomatch hS)
  have P := ps_setLc (g := RG X.K tg) (tt := tt) (te := RE gc cf X.K elt) C.calm C.nd hy hyl hsw hI (C.blk _ _ hb)
    (fun s H Ca cl fp => sT (X := X.blk s H scope (compEnvC scope cl Ca X.env) fp) C.nd C.calm (bx s H Ca cl fp).loc tg tg' hT)
    (fun s H Ca cl fp => hC1 _ (bx s H Ca cl fp) rfl rfl) (fun s H Ca cl fp => (hE _ (bx s H Ca cl fp) rfl rfl).pe) hs
  have eo : (own.map fun i => (X.N.getD i "", i)).map (·.2) = own := by rw [List.map_map]; simp [Function.comp_def]
  rw [eo] at P
  exact ⟨_, P, fun hh => compRead hin hC2 hh⟩
end
end Ev
/-! Soundness of expressions: the theorem. -/
namespace Ev
open PySem PySem.Spec L2
open PyProof.Rows hiding St
section
variable {D : Ds} {gc : List Tr} {cf : CF} {K : PySem.W.Frag} {F F' G H : Hp} {θ θ' : List Addr} {s : Sta} {σ : St}
theorem sRev {X : Cx} {a : Ex} {x : Expr} {k : Nat} {p1 p2 p3 pos : Pos} (ha : PE X x (RE gc cf X.K a)) : Snd gc cf X (.rev a) (.Subscript x (.Slice none none (some (.UnaryOp .USub (.Constant (.int 1) k p1) p2)) p3) pos) := by
  refine Snd.mk1 ⟨fun pins s0 σ H Q I hh => ?_⟩ rfl (fun _ => rfl) (fun s => by simp only [evX, fin])
  obtain ⟨F, G, θ, s, t, s', R, ev, kk⟩ := hh
  simp only [evX, fin] at ev
  obtain ⟨x1, s1, e1, ev⟩ := Rs.bind_eq ev
  split at ev
  · rename_i l e2
    cases ev
    refine (pe_revL ha).run pins s0 σ H Q I ⟨F, G, θ, s, x1, _, R, e1, fun v H1 F1 θ1 R1 l1 p1 r1 => ?_⟩
    have rr := R1.read r1 (by rw [e2]; rfl)
    rw [e2] at rr
    obtain ⟨a, xs, rfl, q, r⟩ := rr
    exact ⟨a, xs, rfl, SqL.of q, fun p np => Fin.lst (fun u H' F' R' l' r' => kk u H' F' θ1 R' (l1.trans l') p1 (RpV.of r')) R1 np r.reverse⟩
  · rename_i l e2
    cases ev
    refine (pe_revT ha).run pins s0 σ H Q I ⟨F, G, θ, s, x1, _, R, e1, fun v H1 F1 θ1 R1 l1 p1 r1 => ?_⟩
    have rr := R1.read r1 (by rw [e2]; rfl)
    rw [e2] at rr
    obtain ⟨a, xs, rfl, q, r, _⟩ := tupH rr R1.m.fle
    exact ⟨a, xs, rfl, q, fun p np => Fin.tup (fun u H' F' R' l' r' => kk u H' F' θ1 R' (l1.trans l') p1 (RpV.of r')) R1 np r.reverse⟩
  · cases ev
theorem RpVs.ofs {K : PySem.W.Frag} {F : Hp} {θ : List Addr} {σ : L2.St} : ∀ {ts : List Tr} {vs : List V}, Rps K F θ ts vs → RpVs K F θ σ ts vs
  | _, _, .nil => .nil
  | _, _, .cons a b => .cons (RpV.of a) (RpVs.ofs b)
def RAS (gc : List Tr) (cf : CF) (K : PySem.W.Frag) (es : List Ex) (bs : List Bool) : TA := fun σ H Q => ∃ F G θ s ts s', Rel K F G θ s σ H ∧ evSt gc cf es bs s = .ok ts s' ∧ ∀ vs H' F' θ', Rel K F' G θ' s' σ H' → FLe F F' → θ <+: θ' → RpVs K F' θ' σ ts vs → Q vs H'
theorem sDispT {X : Cx} {es : List Ex} {bs : List Bool} {xs : List Expr} {kk : Nat} {pos : Pos} (h : PA X xs (RAS gc cf X.K es bs)) : Snd gc cf X (.disp 0 bs es) (.Tuple xs kk pos) := by
  refine Snd.mk1 ⟨fun pins s0 σ H Q I hh => ?_⟩ rfl (fun _ => rfl) (fun s => by simp only [evX, fin])
  obtain ⟨F, G, θ, s, t, s', R, ev, k⟩ := hh
  simp only [evX, fin] at ev
  obtain ⟨ts, s1, e1, ev⟩ := Rs.bind_eq ev
  split at ev
  · rename_i hc
    obtain ⟨h1, h2⟩ := all_pure hc
    cases ev
    refine (pe_tup h).run pins s0 σ H Q I ⟨F, G, θ, s, ts, _, R, e1, fun vs H1 F1 θ1 R1 l1 p1 r1 => ?_⟩
    have r := r1.rps h1
    refine ⟨by rw [r.length]; exact h2, fun p np => ?_⟩
    have f := R1.m.fle.none np
    exact k _ _ _ θ1 (R1.newF np) (l1.trans (FLe.upd1 f)) p1 (RpV.of (.tup (SqT.of upd_same) (r.mono (FLe.upd1 f) (List.prefix_refl _))))
  · cases ev
theorem sDispL {X : Cx} {k : Nat} {es : List Ex} {bs : List Bool} {xs : List Expr} {pos : Pos} (hk : k ≠ 0) (h : PA X xs (RAS gc cf X.K es bs)) : Snd gc cf X (.disp k bs es) (.List xs pos) := by
  refine Snd.mk1 ⟨fun pins s0 σ H Q I hh => ?_⟩ rfl (fun _ => rfl) (fun s => by simp only [evX, fin])
  obtain ⟨F, G, θ, s, t, s', R, ev, kk⟩ := hh
  simp only [evX, fin] at ev
  obtain ⟨ts, s1, e1, ev⟩ := Rs.bind_eq ev
  split at ev
  · rename_i hc
    obtain ⟨h1, h2⟩ := all_pure hc
    split at ev
    · exact absurd rfl hk
    · cases ev
      refine (pe_lst h).run pins s0 σ H Q I ⟨F, G, θ, s, ts, _, R, e1, fun vs H1 F1 θ1 R1 l1 p1 r1 => ?_⟩
      have r := r1.rps h1
      refine ⟨by rw [r.length]; exact h2, fun p np => ?_⟩
      have f := R1.m.fle.none np
      exact kk _ _ _ θ1 (R1.newF np) (l1.trans (FLe.upd1 f)) p1 (RpV.of (.lst upd_same (r.mono (FLe.upd1 f) (List.prefix_refl _))))
    · cases ev
      refine (pe_lst h).run pins s0 σ H Q I ⟨F, G, θ, s, ts, s1, R, e1, fun vs H1 F1 θ1 R1 l1 p1 r1 => ?_⟩
      have r := r1.rps h1
      refine ⟨by rw [r.length]; exact h2, fun p np => ?_⟩
      have hl := R1.m.len
      refine kk _ _ _ _ (R1.share np r) l1 (p1.trans (List.prefix_append _ _)) (RpV.of (.ob ?_))
      rw [hl]
      simp
  · cases ev
theorem lastM {op op' : CmpOp} {y z : Expr} (h : behindInMarks op' z = false) : lastMarks [op, op'] [y, z] = false := h
mutual
theorem sX : ∀ (e : Ex) (X : Cx) (sc : Scope) (ex : Expr), Cxt D gc cf X sc → chk D X.N sc e ex = true → Snd gc cf X e ex
  | .var i, X, sc, ex, C, h => by
    simp only [chk] at h
    split at h
    · obtain ⟨h1, h2⟩ := and2 h
      obtain ⟨h1, h3⟩ := and2 h1
      exact sSlot (of_decide_eq_true h1) (C.vis _ h3) h2
    · cases h
  | .mv i, X, sc, ex, C, h => by
    simp only [chk] at h
    split at h
    · obtain ⟨h1, h2⟩ := and2 h
      obtain ⟨h1, h3⟩ := and2 h1
      exact sMv (of_decide_eq_true h1) (C.vis _ h3) h2
    · cases h
  | .gl k, X, sc, ex, C, h => by
    simp only [chk] at h
    split at h
    · obtain ⟨h1, h2⟩ := and2 h
      obtain ⟨h1, h3⟩ := and2 h1
      exact sGl C (of_decide_eq_true h1) (C.glo _ h3) h2
    · cases h
  | .int i, X, sc, ex, C, h => by
    simp only [chk] at h
    split at h
    · obtain rfl := of_decide_eq_true h
      exact sConst pe_int (fun _ _ => .int _) (fun s => by simp only [evX, fin]) rfl (fun _ => rfl) (fun s => by simp only [evX, fin])
    · cases h
  | .str z, X, sc, ex, C, h => by
    simp only [chk] at h
    split at h
    · obtain rfl := of_decide_eq_true h
      exact sConst pe_str (fun _ _ => .str _) (fun s => by simp only [evX, fin]) rfl (fun _ => rfl) (fun s => by simp only [evX, fin])
    · cases h
  | .bl b, X, sc, ex, C, h => by
    simp only [chk] at h
    split at h
    · obtain rfl := of_decide_eq_true h
      exact sConst pe_bl (fun _ _ => .bl _) (fun s => by simp only [evX, fin]) rfl (fun _ => rfl) (fun s => by simp only [evX, fin])
    · cases h
  | .non, X, sc, ex, C, h => by
    simp only [chk] at h
    split at h
    · exact sConst pe_non (fun _ _ => .non) (fun s => by simp only [evX, fin]) rfl (fun _ => rfl) (fun s => by simp only [evX, fin])
    · cases h
  | .nul, X, sc, ex, C, h => by simp only [chk] at h; cases h
  | .tup es, X, sc, ex, C, h => by
    simp only [chk] at h
    split at h
    · exact sTup (sEs es X sc _ C h)
    · cases h
  | .lst es, X, sc, ex, C, h => by
    simp only [chk] at h
    split at h
    · exact sLst (sEs es X sc _ C h)
    · cases h
  | .shd es, X, sc, ex, C, h => by
    simp only [chk] at h
    split at h
    · exact sShd (sEs es X sc _ C h)
    · cases h
  | .bin o a b, X, sc, ex, C, h => by
    simp only [chk] at h
    split at h
    · obtain ⟨h1, h2⟩ := and2 h
      obtain ⟨h1, h3⟩ := and2 h1
      obtain rfl := of_decide_eq_true h1
      exact Snd.mk1 (sBin C (sX a X sc _ C h3).pe (sX b X sc _ C h2).pe) rfl (fun _ => rfl) (fun s => by simp only [evX, fin])
    · cases h
  | .neg a, X, sc, ex, C, h => by
    simp only [chk] at h
    split at h
    · exact sNeg (sX a X sc _ C h).pe
    · cases h
  | .cmp o a b, X, sc, ex, C, h => by
    simp only [chk] at h
    split at h
    · obtain ⟨h1, h4⟩ := and2 h
      obtain ⟨h1, h2⟩ := and2 h1
      obtain ⟨h1, h3⟩ := and2 h1
      obtain rfl := of_decide_eq_true h1
      exact sCmp C (sX a X sc _ C h3).pe (sX b X sc _ C h2).pe (by simpa using h4)
    · cases h
  | .chain o p a b c, X, sc, ex, C, h => by
    simp only [chk] at h
    split at h
    · obtain ⟨h1, h6⟩ := and2 h
      obtain ⟨h1, h5⟩ := and2 h1
      obtain ⟨h1, h4⟩ := and2 h1
      obtain ⟨h1, h3⟩ := and2 h1
      obtain ⟨h1, h2⟩ := and2 h1
      obtain rfl := of_decide_eq_true h1
      obtain rfl := of_decide_eq_true h2
      exact sChain C (sX a X sc _ C h3).pe (sX b X sc _ C h4).pe (sX c X sc _ C h5).pe (lastM (by simpa using h6))
    · cases h
  | .and_ a b, X, sc, ex, C, h => by
    simp only [chk] at h
    split at h
    · rename_i x y r p
      obtain ⟨h1, h2⟩ := and2 h
      refine sAnd (sX a X sc _ C h1) (fun e => ?_) (fun e => ?_)
      · subst e
        exact sX b X sc _ C h2
      · cases r with
        | nil => exact absurd rfl e
        | cons z w => exact sX b X sc _ C h2
    · cases h
  | .or_ a b, X, sc, ex, C, h => by
    simp only [chk] at h
    split at h
    · rename_i x y r p
      obtain ⟨h1, h2⟩ := and2 h
      refine sOr (sX a X sc _ C h1) (fun e => ?_) (fun e => ?_)
      · subst e
        exact sX b X sc _ C h2
      · cases r with
        | nil => exact absurd rfl e
        | cons z w => exact sX b X sc _ C h2
    · cases h
  | .not_ a, X, sc, ex, C, h => by
    simp only [chk] at h
    split at h
    · exact sNot (sX a X sc _ C h)
    · cases h
  | .ite c a b, X, sc, ex, C, h => by
    simp only [chk] at h
    split at h
    · obtain ⟨h1, h2⟩ := and2 h
      obtain ⟨h1, h3⟩ := and2 h1
      exact sIte (sX c X sc _ C h1) (sX a X sc _ C h3) (sX b X sc _ C h2)
    · cases h
  | .idx a b, X, sc, ex, C, h => by
    simp only [chk] at h
    split at h
    · obtain ⟨h1, h2⟩ := and2 h
      obtain ⟨h1, h3⟩ := and2 h1
      exact sIdx (sX a X sc _ C h3).pe (sX b X sc _ C h2).pe (by simpa using h1)
    · cases h
  | .sl a lo hi, X, sc, ex, C, h => by
    simp only [chk] at h
    split at h
    · rename_i l hh _ _
      obtain ⟨h1, h2⟩ := and2 h
      obtain ⟨h1, h3⟩ := and2 h1
      refine sSl (sX a X sc _ C h1).pe (sPart ?_) (sPart ?_)
      · cases l with
        | none => exact h3
        | some l =>
          obtain ⟨h4, h5⟩ := and2 h3
          exact ⟨by simpa using h4, (sX lo X sc _ C h5).pe⟩
      · cases hh with
        | none => exact h2
        | some l =>
          obtain ⟨h4, h5⟩ := and2 h2
          exact ⟨by simpa using h4, (sX hi X sc _ C h5).pe⟩
    · cases h
  | .rev a, X, sc, ex, C, h => by
    simp only [chk] at h
    split at h
    · exact sRev (sX a X sc _ C h).pe
    · cases h
  | .bad, X, sc, ex, C, h => ⟨⟨fun pins s0 σ H Q I hh => by obtain ⟨F, G, θ, s, t, s', R, ev, k⟩ := hh; simp only [evX] at ev; cases ev⟩, ⟨fun pins s0 σ H Q I hh => by obtain ⟨F, G, θ, s, t, s', R, ev, k⟩ := hh; simp only [evX] at ev; cases ev⟩, fun _ => ⟨fun pins s0 σ H QT QF I hh => by obtain ⟨F, G, θ, s, t, s', R, ev, k⟩ := hh; simp only [evX] at ev; cases ev⟩⟩
  | .disp k bs es, X, sc, ex, C, h => by
    simp only [chk] at h
    split at h
    · split at h
      · exact sDispT (sSts es bs X sc _ C h)
      · cases h
    · rename_i hk
      split at h
      · exact sDispL (fun z => hk z) (sSts es bs X sc _ C h)
      · cases h
  | .callK f es ks, X, sc, ex, C, h => by
    simp only [chk] at h
    split at h
    · obtain ⟨h1, h5⟩ := and2 h
      obtain ⟨h1, h2⟩ := and2 h1
      obtain ⟨h1, h3⟩ := and2 h1
      obtain ⟨h1, h4⟩ := and2 h1
      split at h5
      · rename_i ps hp
        exact sCallK C (of_decide_eq_true h1) (C.glo _ h4) h3 (sEs es X sc _ C h2) h2 hp (sKs ks X sc _ _ C h5) h5
      · cases h5
    · cases h
  | .call f es, X, sc, ex, C, h => by
    simp only [chk] at h
    split at h
    · obtain ⟨h1, h2⟩ := and2 h
      obtain ⟨h1, h3⟩ := and2 h1
      obtain ⟨h1, h4⟩ := and2 h1
      exact sCall C (of_decide_eq_true h1) (C.glo _ h4) h3 (sEs es X sc _ C h2) h2
    · cases h
  | .bi b es, X, sc, ex, C, h => by
    simp only [chk] at h
    split at h
    · rename_i x p1 xs p2
      obtain ⟨h1, h2⟩ := and2 h
      obtain ⟨e1, g1, m1⟩ := blB_ok C h1
      subst e1
      have isI : ∀ (id : String) (nm : Str), b.isTy = some id → bootBuiltins nm = some (.type id) → nm ≠ "__name__" → (nm == ("__debug__" : Str)) = false →
          (∃ z y pq, xs = [z, .Name y pq] ∧ chks D X.N sc es [z] = true ∧ blB D sc y nm = true) → Snd gc cf X (.bi b es) (.Call (.Name b.nm p1) xs [] p2) := by
        intro id nm hid hb hn1 hn2 ⟨z, y, pq, hx, h3, h4⟩
        subst hx
        obtain ⟨rfl, g2, m2⟩ := blB_ok C h4
        refine sBiI C hid g1 m1 g2 m2 hb hn1 hn2 (sEs es X sc _ C h3) (fun e he => ?_) h3
        subst he
        simp only [chks] at h3
        exact (sX e X sc _ C (and2 (and2 h3).1).2).pe
      cases b with
      | len => exact sBiF C rfl g1 m1 (sEs es X sc _ C h2) h2
      | abs => exact sBiF C rfl g1 m1 (sEs es X sc _ C h2) h2
      | sum => exact sBiF C rfl g1 m1 (sEs es X sc _ C h2) h2
      | max2 => exact sBiF C rfl g1 m1 (sEs es X sc _ C h2) h2
      | min2 => exact sBiF C rfl g1 m1 (sEs es X sc _ C h2) h2
      | all => exact sBiF C rfl g1 m1 (sEs es X sc _ C h2) h2
      | any => exact sBiF C rfl g1 m1 (sEs es X sc _ C h2) h2
      | repr => exact sBiF C rfl g1 m1 (sEs es X sc _ C h2) h2
      | int => exact sBiT rfl g1 m1 (sEs es X sc _ C h2) h2
      | listOf => exact sBiT rfl g1 m1 (sEs es X sc _ C h2) h2
      | tupOf => exact sBiT rfl g1 m1 (sEs es X sc _ C h2) h2
      | isInt =>
        simp only at h2
        split at h2
        · rename_i z y pq
          exact isI "int" "int" rfl boot_tys.1 (by decide +kernel) (by decide +kernel) ⟨z, y, pq, rfl, and2 h2⟩
        · cases h2
      | isBool =>
        simp only at h2
        split at h2
        · rename_i z y pq
          exact isI "bool" "bool" rfl boot_tys.2.1 (by decide +kernel) (by decide +kernel) ⟨z, y, pq, rfl, and2 h2⟩
        · cases h2
      | isStr =>
        simp only at h2
        split at h2
        · rename_i z y pq
          exact isI "str" "str" rfl boot_tys.2.2.1 (by decide +kernel) (by decide +kernel) ⟨z, y, pq, rfl, and2 h2⟩
        · cases h2
      | isTup =>
        simp only at h2
        split at h2
        · rename_i z y pq
          exact isI "tuple" "tuple" rfl boot_tys.2.2.2 (by decide +kernel) (by decide +kernel) ⟨z, y, pq, rfl, and2 h2⟩
        · cases h2
      | listRg =>
        simp only at h2
        split at h2
        · rename_i y q ys q2
          obtain ⟨h3, h4⟩ := and2 h2
          obtain ⟨h3, h5⟩ := and2 h3
          obtain ⟨rfl, g2, m2⟩ := blB_ok C h3
          obtain ⟨y0, rfl⟩ := List.length_eq_one_iff.mp (of_decide_eq_true h4)
          refine sListRg C g1 m1 g2 m2 (fun e he => ?_) h5
          subst he
          simp only [chks] at h5
          exact (sX e X sc _ C (and2 (and2 h5).1).2).pe
        · cases h2
    · cases h
  | .pop i, X, sc, ex, C, h => by
    simp only [chk] at h
    split at h
    · obtain ⟨h1, h5⟩ := and2 h
      obtain ⟨h1, h4⟩ := and2 h1
      obtain ⟨h1, h3⟩ := and2 h1
      obtain ⟨h1, h2⟩ := and2 h1
      obtain rfl := of_decide_eq_true h1
      exact sPop (of_decide_eq_true h2) (C.vis _ h3) h4 h5
    · cases h
  | .comp k elt tg its cond own, X, sc, ex, C, h => by
    simp only [chk] at h
    split at h
    · rename_i e' tg' iter ifs scope pos
      obtain ⟨h1, hit⟩ := and2 h
      obtain ⟨h1, hcond⟩ := and2 h1
      obtain ⟨h1, htg⟩ := and2 h1
      obtain ⟨h1, helt⟩ := and2 h1
      obtain ⟨h1, hblk⟩ := and2 h1
      obtain ⟨hset, hin⟩ := and2 h1
      have hI : PI X tg' iter (RI gc cf X.K k its) := sI C (fun e x he hx => by subst he; exact (sX e X sc x C hx).pe) (fun xs hxs => sEs its X sc xs C hxs) (.inr ⟨_, _, htg⟩) hit
      have hE : ∀ X' : Cx, Cxt D gc cf X' scope → X'.N = X.N → X'.K = X.K → Snd gc cf X' elt e' := fun X' C' hN _ => sX elt X' scope e' C' (by rw [hN]; exact helt)
      cases ifs with
      | nil =>
        refine sComp (tt := tYes) C hI hblk (by simpa using hset) hin hE htg (fun _ _ _ _ => pts_nil) (fun {σ H Q F G θ s b s'} R e k => ?_)
        rw [if_pos hcond] at e
        cases e
        exact k H F θ R (FLe.refl F) (List.prefix_refl _)
      | cons c r =>
        cases r with
        | cons _ _ => cases hcond
        | nil =>
          obtain ⟨h2, h3⟩ := and2 hcond
          refine sComp (tt := RT gc cf X.K cond) C hI hblk (by simpa using hset) hin hE htg (fun X' C' hN hK => ?_) (fun {σ H Q F G θ s b s'} R e k => ?_)
          · have z := pts_one (sX cond X' scope c C' (by rw [hN]; exact h3)).pt
            rw [hK] at z
            exact z
          · rw [if_neg (by simpa using h2)] at e
            exact ⟨F, G, θ, s, b, s', R, e, k⟩
    · cases h
theorem sSts : ∀ (es : List Ex) (bs : List Bool) (X : Cx) (sc : Scope) (xs : List Expr), Cxt D gc cf X sc → chkSt D X.N sc es bs xs = true → PA X xs (RAS gc cf X.K es bs)
  | [], bs, X, sc, xs, C, h => by
    cases xs with
    | cons _ _ => exact nomatch h
    | nil =>
      refine ⟨fun p pins s0 σ H Q I hh => ?_⟩
      obtain ⟨F, G, θ, s, ts, s', R, ev, k⟩ := hh
      simp only [evSt] at ev
      cases ev
      exact pa_nil.run p pins s0 σ H Q I (k [] H F θ R (FLe.refl F) (List.prefix_refl _) .nil)
  | e :: es, bs, X, sc, xs, C, h => by
    cases xs with
    | nil => exact nomatch h
    | cons x xs =>
      simp only [chkSt] at h
      obtain ⟨h1, h2⟩ := and2 h
      have p2 := sSts es bs.tail X sc xs C h2
      split at h1
      · rename_i hb
        split at h1
        · rename_i y py
          have p1 := (sX e X sc y C h1).pe
          refine ⟨fun p pins s0 σ H Q I hh => ?_⟩
          obtain ⟨F, G, θ, s, ts, s', R, ev, k⟩ := hh
          simp only [evSt] at ev
          obtain ⟨t, s1, e1, ev⟩ := Rs.bind_eq ev
          rw [if_pos hb] at ev
          split at ev
          · rename_i l hl
            obtain ⟨ts', s2, e2, ev⟩ := Rs.bind_eq ev
            cases ev
            refine (StX.pa_star p1 p2 rfl).run p pins s0 σ H Q I ⟨F, G, θ, s, t, s1, R, e1, fun v H1 F1 θ1 R1 l1 p1' r1 => ?_⟩
            obtain ⟨a, zs, rfl, rr, st⟩ := R1.stable r1 hl
            have st1 := st H1 R1.m.fle (.inr R1.out.gle)
            refine ⟨a, zs, rfl, ?_, F1, G, θ1, s1, ts', _, R1, e2, fun vs H2 F2 θ2 R2 l2 p2' r2 => ?_⟩
            · by_cases hT : isTupT (s1.deref t) = true
              · rw [if_pos hT] at st1; exact .inl st1
              · rw [if_neg hT] at st1; exact .inr st1
            · exact k (zs ++ vs) H2 F2 θ2 R2 (l1.trans l2) (p1'.trans p2') ((RpVs.ofs (rr.mono l2 p2')).append r2)
          · cases ev
        · cases h1
      · rename_i hb
        obtain ⟨h1, h3⟩ := and2 h1
        have p1 := (sX e X sc x C h3).pe
        refine ⟨fun p pins s0 σ H Q I hh => ?_⟩
        obtain ⟨F, G, θ, s, ts, s', R, ev, k⟩ := hh
        simp only [evSt] at ev
        obtain ⟨t, s1, e1, ev⟩ := Rs.bind_eq ev
        rw [if_neg hb] at ev
        obtain ⟨ts', s2, e2, ev⟩ := Rs.bind_eq ev
        cases ev
        exact (pa_cons p1 p2 (star_cons (by simpa using h1))).run p pins s0 σ H Q I ⟨F, G, θ, s, t, s1, R, e1, fun v H1 F1 θ1 R1 l1 p1' r1 => ⟨F1, G, θ1, s1, ts', _, R1, e2, fun vs H2 F2 θ2 R2 l2 p2' r2 => k (v :: vs) H2 F2 θ2 R2 (l1.trans l2) (p1'.trans p2') (.cons (r1.mono l2 p2') r2)⟩⟩
theorem sKs : ∀ (es : List Ex) (X : Cx) (sc : Scope) (ps : List Str) (kws : List Keyword), Cxt D gc cf X sc → chkK D X.N sc es ps kws = true → PK X kws (RA gc cf X.K es)
  | [], X, sc, ps, kws, C, h => by
    cases kws with
    | cons _ _ =>
      simp only [chkK] at h
      split at h
      · cases h
      · cases h
    | nil =>
      refine ⟨fun p pins s0 σ H Q I hh => ?_⟩
      obtain ⟨F, G, θ, s, ts, s', R, ev, k⟩ := hh
      simp only [evEs] at ev
      cases ev
      exact pk_nil.run p pins s0 σ H Q I (k [] H F θ R (FLe.refl F) (List.prefix_refl _) .nil)
  | e :: es, X, sc, ps, kws, C, h => by
    cases ps with
    | nil => simp only [chkK] at h; cases h
    | cons p0 ps => cases kws with
      | nil => simp only [chkK] at h; cases h
      | cons kw kws =>
        obtain ⟨nm, x, kp⟩ := kw
        cases nm with
        | none => simp only [chkK] at h; cases h
        | some nm =>
        simp only [chkK] at h
        obtain ⟨h1, h2⟩ := and2 h
        obtain ⟨h1, h3⟩ := and2 h1
        have p1 := (sX e X sc x C h3).pe
        have p2 := sKs es X sc ps kws C h2
        refine ⟨fun p pins s0 σ H Q I hh => ?_⟩
        obtain ⟨F, G, θ, s, ts, s', R, ev, k⟩ := hh
        simp only [evEs] at ev
        obtain ⟨t, s1, e1, ev⟩ := Rs.bind_eq ev
        obtain ⟨ts', s2, e2, ev⟩ := Rs.bind_eq ev
        cases ev
        exact (pk_cons p1 p2).run p pins s0 σ H Q I ⟨F, G, θ, s, t, s1, R, e1, fun v H1 F1 θ1 R1 l1 p1' r1 => ⟨F1, G, θ1, s1, ts', _, R1, e2, fun vs H2 F2 θ2 R2 l2 p2' r2 => k (v :: vs) H2 F2 θ2 R2 (l1.trans l2) (p1'.trans p2') (.cons (r1.mono l2 p2') r2)⟩⟩
theorem sEs : ∀ (es : List Ex) (X : Cx) (sc : Scope) (xs : List Expr), Cxt D gc cf X sc → chks D X.N sc es xs = true → PA X xs (RA gc cf X.K es)
  | [], X, sc, xs, C, h => by
    cases xs with
    | cons _ _ => exact nomatch h
    | nil =>
      refine ⟨fun p pins s0 σ H Q I hh => ?_⟩
      obtain ⟨F, G, θ, s, ts, s', R, ev, k⟩ := hh
      simp only [evEs] at ev
      cases ev
      exact pa_nil.run p pins s0 σ H Q I (k [] H F θ R (FLe.refl F) (List.prefix_refl _) .nil)
  | e :: es, X, sc, xs, C, h => by
    cases xs with
    | nil => exact nomatch h
    | cons x xs =>
      simp only [chks] at h
      obtain ⟨h1, h2⟩ := and2 h
      obtain ⟨h1, h3⟩ := and2 h1
      have p1 := (sX e X sc x C h3).pe
      have p2 := sEs es X sc xs C h2
      refine ⟨fun p pins s0 σ H Q I hh => ?_⟩
      obtain ⟨F, G, θ, s, ts, s', R, ev, k⟩ := hh
      simp only [evEs] at ev
      obtain ⟨t, s1, e1, ev⟩ := Rs.bind_eq ev
      obtain ⟨ts', s2, e2, ev⟩ := Rs.bind_eq ev
      cases ev
      exact (pa_cons p1 p2 (star_cons (by simpa using h1))).run p pins s0 σ H Q I ⟨F, G, θ, s, t, s1, R, e1, fun v H1 F1 θ1 R1 l1 p1' r1 => ⟨F1, G, θ1, s1, ts', _, R1, e2, fun vs H2 F2 θ2 R2 l2 p2' r2 => k (v :: vs) H2 F2 θ2 R2 (l1.trans l2) (p1'.trans p2') (.cons (r1.mono l2 p2') r2)⟩⟩
end
end
end Ev
/-! Soundness of statements: the parts. -/
namespace Ev
open PySem PySem.Spec L2
open PyProof.Rows hiding St
section
variable {D : Ds} {gc : List Tr} {cf : CF} {wf : Nat} {X : Cx} {sc : Scope} {K : PySem.W.Frag} {F F' G H : Hp} {θ θ' : List Addr} {s : Sta} {σ : St}
/-- less is guarded -/
theorem Rel.weakG {G' : Hp} (R : Rel K F G' θ s σ H) (h : FLe G G') : Rel K F G θ s σ H := by
  refine ⟨⟨R.m.fle, h.trans R.m.gle, fun a o e => R.m.fg a o (h a o e), R.m.len, R.m.nd, fun n o e => ?_⟩, R.len, fun i x e => ?_, R.dis⟩
  · obtain ⟨a, h1, h2, h3, h4⟩ := R.m.ob n o e
    exact ⟨a, h1, h2, h.none h3, h4⟩
  · have r := R.slot i x e
    cases x with
    | none => exact r
    | val t => exact r
    | own l => obtain ⟨a, xs, e1, h1, f, g, t, q⟩ := r; exact ⟨a, xs, e1, h1, f, h.none g, t, q⟩
/-- what is wanted behind a statement -/
def Aft (K : PySem.W.Frag) (F G : Hp) (θ : List Addr) (s' : Sta) (D' : Ends) : Fl → Prop
  | .next => ∀ σ' H' F' θ', Rel K F' G θ' s' σ' H' → FLe F F' → θ <+: θ' → D'.nx σ' H'
  | .brk => ∀ σ' H' F' θ', Rel K F' G θ' s' σ' H' → FLe F F' → θ <+: θ' → D'.bk σ' H'
  | .cont => ∀ σ' H' F' θ', Rel K F' G θ' s' σ' H' → FLe F F' → θ <+: θ' → D'.ct σ' H'
  | .ret t => ∀ v σ' H' F' θ', Rel K F' G θ' s' σ' H' → FLe F F' → θ <+: θ' → Rp K F' θ' t v → D'.rt v H'
theorem Aft.mono {G : Hp} {s' : Sta} {D' : Ends} {fl : Fl} (h : Aft K F G θ s' D' fl) (l : FLe F F') (p : θ <+: θ') : Aft K F' G θ' s' D' fl := by
  cases fl with
  | next => exact fun σ' H' F2 θ2 R l' p' => h σ' H' F2 θ2 R (l.trans l') (p.trans p')
  | brk => exact fun σ' H' F2 θ2 R l' p' => h σ' H' F2 θ2 R (l.trans l') (p.trans p')
  | cont => exact fun σ' H' F2 θ2 R l' p' => h σ' H' F2 θ2 R (l.trans l') (p.trans p')
  | ret t => exact fun v σ' H' F2 θ2 R l' p' r => h v σ' H' F2 θ2 R (l.trans l') (p.trans p') r
section
variable (gc : List Tr) (cf : CF) (wf : Nat)
def RS (K : PySem.W.Frag) (st : Sm) : TS := fun D' σ H => ∃ F G θ s fl s', Rel K F G θ s σ H ∧ exS gc cf wf st s = .ok fl s' ∧ Aft K F G θ s' D' fl
def RSs (K : PySem.W.Frag) (st : List Sm) : TS := fun D' σ H => ∃ F G θ s fl s', Rel K F G θ s σ H ∧ exSs gc cf wf st s = .ok fl s' ∧ Aft K F G θ s' D' fl
end
/-! ### the swapped stores, for a def's names -/
def noStar (vs : List Expr) : Bool := !(vs.any isStar)
def namesOf (sc : Scope) (line : Nat) (ts : List Expr) : List Str := ts.filterMap fun
  | .Name id pos => if sc.names.lookup id == some .local && pos.line == line then some id else none
  | _ => none
def swQ (sc : Scope) (ts vs : List Expr) : Option (Option (List Str)) :=
  if !(ts.length == 2 || ts.length == 3) || vs.length != ts.length then some none
  else if vs.any isStar then some none
  else if (namesOf sc ((ts.head?.map (·.pos.line)).getD 0) ts).length != ts.length || (namesOf sc ((ts.head?.map (·.pos.line)).getD 0) ts).eraseDups.length != (namesOf sc ((ts.head?.map (·.pos.line)).getD 0) ts).length then some none
  else if vs.all (foldedForSure 8) then some none
  else if vs.all (constantsAlone 8) then none
  else some (some (namesOf sc ((ts.head?.map (·.pos.line)).getD 0) ts))
theorem starFun : (fun (e : Expr) => match e with | .Starred .. => true | _ => false) = isStar := by
  funext e
  cases e <;> rfl
theorem swQ_ok {env : Env} {ts vs : List Expr} {k k2 : Nat} {p p2 : Pos} {r : Option (List Str)} (hk : env.scope.kind = .function) (h : swQ env.scope ts vs = some r) : swappedStores [.Tuple ts k p] (.Tuple vs k2 p2) env = pure r := by
  have hb : (env.blockKind != .function) = false := by unfold Env.blockKind; rw [hk]; rfl
  have en : (ts.filterMap fun
    | .Name id pos => if env.kindOf id == some .local && pos.line == (ts.head?.map (·.pos.line)).getD 0 then some id else none
    | _ => none) = namesOf env.scope ((ts.head?.map (·.pos.line)).getD 0) ts := rfl
  unfold swappedStores
  simp only [hb, Bool.or_false]
  have key : ∀ f : Expr → Bool, (∀ e, f e = isStar e) → vs.any f = vs.any isStar := fun f hf => by
    have : f = isStar := funext hf
    rw [this]
  rw [key _ (by intro e; cases e <;> rfl)]
  unfold swQ at h
  split at h
  · rename_i c1
    cases h
    exact if_pos c1
  · rename_i c1
    refine (if_neg c1).trans ?_
    split at h
    · rename_i c2
      cases h
      exact if_pos c2
    · rename_i c2
      refine (if_neg c2).trans ?_
      split at h
      · rename_i c3
        cases h
        exact if_pos c3
      · rename_i c3
        refine (if_neg c3).trans ?_
        split at h
        · rename_i c4
          cases h
          exact if_pos c4
        · rename_i c4
          refine (if_neg c4).trans ?_
          split at h
          · cases h
          · rename_i c5
            cases h
            exact if_neg c5
end
end Ev
/-! Soundness of statements: each kind. -/
namespace Ev
open PySem PySem.Spec L2
open PyProof.Rows hiding St
section
variable {D : Ds} {gc : List Tr} {cf : CF} {wf : Nat} {X : Cx} {sc : Scope} {K : PySem.W.Frag} {F F' G H : Hp} {θ θ' : List Addr} {s : Sta} {σ : St}
def isCompE : Expr → Bool
  | .ListComp .. => true
  | .SetComp .. => true
  | .DictComp .. => true
  | _ => false
theorem swaps_no {v : Expr} {t : Option Expr} {l : Nat} {env : Env} (h : isCompE v = false) : swapsWith v t l env = pure false := by
  cases v <;> first | rfl | (exact nomatch h)
theorem Rel.p0 (θ : List Addr) : θ <+: θ := List.prefix_refl θ
theorem sSet (C : Cxt D gc cf X sc) {i : Nat} {e : Ex} {x : Str} {px pos : Pos} {v : Expr} (hN : X.N[i]? = some x) (hl : locB sc x = true) (he : PE X v (RE gc cf X.K e)) (hv : isCompE v = false) : PS X (.Assign [.Name x px] v pos) (RS gc cf wf X.K (.set i e)) := by
  obtain ⟨h1, h2⟩ := C.loc x hl
  refine ⟨fun pins s0 σ H D' I hh => ?_⟩
  obtain ⟨F, G, θ, s, fl, s', R, ev, k⟩ := hh
  simp only [exS] at ev
  obtain ⟨t, s1, e1, ev⟩ := Rs.bind_eq ev
  split at ev
  · rename_i hc
    obtain ⟨h3, h4⟩ := and2 hc
    cases ev
    exact (ps_set C.nd hN h1 he (swaps_no hv) h2).run pins s0 σ H D' I ⟨F, G, θ, s, t, s1, R, e1, fun v H1 F1 θ1 R1 l1 p1 r1 => k _ H1 F1 θ1 (R1.store (r1.rp h3) (of_decide_eq_true h4)) l1 p1⟩
  · cases ev
theorem sSetC (C : Cxt D gc cf X sc) {i : Nat} {e : Ex} {st : Stmt} {t : TE} (hp : PS X st (tAsg t (gName i))) (hr : ∀ {σ : St} {H : Hp} {Q : VK}, RE gc cf X.K e σ H Q → t σ H Q) : PS X st (RS gc cf wf X.K (.set i e)) := by
  refine ⟨fun pins s0 σ H D' I hh => ?_⟩
  obtain ⟨F, G, θ, s, fl, s', R, ev, k⟩ := hh
  simp only [exS] at ev
  obtain ⟨t, s1, e1, ev⟩ := Rs.bind_eq ev
  split at ev
  · rename_i hc
    obtain ⟨h3, h4⟩ := and2 hc
    cases ev
    exact hp.run pins s0 σ H D' I (hr ⟨F, G, θ, s, t, s1, R, e1, fun v H1 F1 θ1 R1 l1 p1 r1 => k _ H1 F1 θ1 (R1.store (r1.rp h3) (of_decide_eq_true h4)) l1 p1⟩)
  · cases ev
/-- a fresh list at p becomes the own list of slot i -/
theorem Rel.ownNew {i : Nat} {l : List Tr} {xs : List V} {p : Addr} (R : Rel K F G θ s σ H) (n : H p = none) (r : Rps K F θ l xs) (hi : i < s.env.length) : Rel K F G θ ⟨s.env.set i (.own l), s.mem⟩ (σ.set i (some (.ref p))) (upd H p (.lst xs)) := by
  have np : p ∉ θ := fun hm => by
    obtain ⟨k, hk⟩ := List.getElem?_of_mem hm
    have hlt : k < θ.length := (List.getElem?_eq_some_iff.mp hk).1
    obtain ⟨b, q1, _, _, q4⟩ := R.m.ob k (s.mem[k]'(by rw [R.m.len]; exact hlt)) (by simp)
    rw [hk] at q1
    cases q1
    cases q5 : (s.mem[k]'(by rw [R.m.len]; exact hlt))
    rw [q5] at q4
    obtain ⟨zs, q, _⟩ := q4
    rw [n] at q
    cases q
  refine (R.junk (o := .lst xs) n).storeOwn r upd_same (R.m.fle.none n) (R.m.gle.none n) np (fun j l' _ e z => ?_) hi
  obtain ⟨zs, q, _⟩ := R.ownAt e z
  rw [n] at q
  cases q
theorem sOwn (C : Cxt D gc cf X sc) {i : Nat} {es : List Ex} {x : Str} {px p2 pos : Pos} {xs : List Expr} (hN : X.N[i]? = some x) (hl : locB sc x = true) (he : PA X xs (RA gc cf X.K es)) : PS X (.Assign [.Name x px] (.List xs p2) pos) (RS gc cf wf X.K (.own i es)) := by
  obtain ⟨h1, h2⟩ := C.loc x hl
  refine ⟨fun pins s0 σ H D' I hh => ?_⟩
  obtain ⟨F, G, θ, s, fl, s', R, ev, k⟩ := hh
  simp only [exS] at ev
  obtain ⟨ts, s1, e1, ev⟩ := Rs.bind_eq ev
  split at ev
  · rename_i hc
    obtain ⟨h3, h4⟩ := and2 hc
    obtain ⟨h5, h6⟩ := and2 h3
    cases ev
    refine (ps_set C.nd hN h1 (pe_lst he) rfl h2).run pins s0 σ H D' I ⟨F, G, θ, s, ts, s1, R, e1, fun vs H1 F1 θ1 R1 l1 p1 r1 => ?_⟩
    have r := r1.rps h5
    exact ⟨by rw [r.length]; exact of_decide_eq_true h6, fun p np => k _ _ F1 θ1 (R1.ownNew np r (of_decide_eq_true h4)) l1 p1⟩
  · cases ev
theorem sOwnOf (C : Cxt D gc cf X sc) {i : Nat} {e : Ex} {x : Str} {px p2 p3 pos : Pos} {z : Expr} (hN : X.N[i]? = some x) (hl : locB sc x = true) (hg : Gl X "list") (hm : X.mg "list" = none) (he : PE X z (RE gc cf X.K e)) (hst : isStar z = false) : PS X (.Assign [.Name x px] (.Call (.Name "list" p2) [z] [] p3) pos) (RS gc cf wf X.K (.ownOf i e)) := by
  obtain ⟨h1, h2⟩ := C.loc x hl
  refine ⟨fun pins s0 σ H D' I hh => ?_⟩
  obtain ⟨F, G, θ, s, fl, s', R, ev, k⟩ := hh
  simp only [exS] at ev
  obtain ⟨t, s1, e1, ev⟩ := Rs.bind_eq ev
  split at ev
  · rename_i l e2
    split at ev
    · rename_i hi
      cases ev
      refine (ps_set C.nd hN h1 (pe_callTy (T := "list") call_list_of hg hm (by decide +kernel) (pa_cons he pa_nil (star_cons hst)) (by decide) (by decide) (star_cons hst) (by rfl)) rfl h2).run pins s0 σ H D' I ⟨F, G, θ, s, t, s1, R, e1, fun v H1 F1 θ1 R1 l1 p1 r1 => ?_⟩
      have hp : (s1.deref t).pure = true := by
        cases e3 : s1.deref t <;> first | rfl | (rw [e3] at e2; exact nomatch e2)
      obtain ⟨a, xs, rfl, q, r⟩ := seqH R1.m.fle e2 (R1.read r1 hp)
      exact ⟨a, xs, rfl, q, fun p np => k _ _ F1 θ1 (R1.ownNew np r hi) l1 p1⟩
    · cases ev
  · cases ev
def isTupE : Expr → Bool
  | .Tuple .. => true
  | _ => false
theorem sTgt (C : Cxt D gc cf X sc) {tg : Tg} {e : Ex} {t v : Expr} {pos : Pos} (ht : chkT X.N sc tg t = true) (htp : isTp tg = true) (he : PE X v (RE gc cf X.K e)) (hv : isTupE v = false) : PS X (.Assign [t] v pos) (RS gc cf wf X.K (.tgt tg e)) := by
  obtain ⟨es, kk, p, rfl⟩ : ∃ es kk p, t = .Tuple es kk p := by
    cases tg with
    | nm i => cases htp
    | tp gs =>
      simp only [chkT] at ht
      split at ht
      · exact ⟨_, _, _, rfl⟩
      · cases ht
  have h1 : swapsWithSole [.Tuple es kk p] v pos.line X.env = pure false := by cases v <;> rfl
  have h2 : swappedStores [.Tuple es kk p] v X.env = pure none := by
    cases v <;> first | rfl | (exact nomatch hv)
  refine ⟨fun pins s0 σ H D' I hh => ?_⟩
  obtain ⟨F, G, θ, s, fl, s', R, ev, k⟩ := hh
  simp only [exS] at ev
  obtain ⟨t, s1, e1, ev⟩ := Rs.bind_eq ev
  split at ev
  · rename_i env e2
    cases ev
    have tp : t.pure = true := by
      cases tg with
      | nm i => cases htp
      | tp gs => cases t <;> first | rfl | (simp only [asg] at e2; cases e2)
    exact (ps_asg he (sT C.nd C.calm C.loc tg _ ht) h1 h2 (by rfl)).run pins s0 σ H D' I ⟨F, G, θ, s, t, s1, R, e1, fun v H1 F1 θ1 R1 l1 p1 r1 => ⟨F1, G, θ1, s1.env, s1.mem, t, env, R1, r1.rp tp, e2, fun σ' R' _ => k σ' H1 F1 θ1 R' l1 p1⟩⟩
  · cases ev
theorem sAug (C : Cxt D gc cf X sc) {i : Nat} {o : Op} {e : Ex} {x : Str} {px pos : Pos} {v : Expr} (hN : X.N[i]? = some x) (hl : locB sc x = true) (ho : o = .add ∨ o = .sub) (he : PE X v (RE gc cf X.K e)) : PS X (.AugAssign (.Name x px) o.py v pos) (RS gc cf wf X.K (.aug i o e)) := by
  obtain ⟨h1, h2⟩ := C.loc x hl
  refine ⟨fun pins s0 σ H D' I hh => ?_⟩
  obtain ⟨F, G, θ, s, fl, s', R, ev, k⟩ := hh
  simp only [exS] at ev
  split at ev
  · rename_i n en
    obtain ⟨t, s1, e1, ev⟩ := Rs.bind_eq ev
    obtain ⟨w, ew, rw'⟩ := R.slot i _ en
    cases rw'
    have hi : i < s.env.length := (List.getElem?_eq_some_iff.mp en).1
    split at ev
    · rename_i m hh9
      cases ev
      refine (ps_aug C.nd hN h1 he (fun pins s σ H x y v u Q I rx ry h => iop_add pins s σ H x y v u Q I rx ry h) h2).run pins s0 σ H D' I ⟨_, ew, F, G, θ, s, _, s1, R, e1, fun v H1 F1 θ1 R1 l1 p1 r1 => ?_⟩
      cases (show Rp _ _ _ _ _ from r1)
      exact ⟨n, m, rfl, rfl, k _ H1 F1 θ1 (R1.store (.int _) (by rw [R1.len, ← R.len]; exact hi)) l1 p1⟩
    · rename_i m hh9
      cases ev
      refine (ps_aug C.nd hN h1 he (fun pins s σ H x y v u Q I rx ry h => iop_sub pins s σ H x y v u Q I rx ry h) h2).run pins s0 σ H D' I ⟨_, ew, F, G, θ, s, _, s1, R, e1, fun v H1 F1 θ1 R1 l1 p1 r1 => ?_⟩
      cases (show Rp _ _ _ _ _ from r1)
      exact ⟨n, m, rfl, rfl, k _ H1 F1 θ1 (R1.store (.int _) (by rw [R1.len, ← R.len]; exact hi)) l1 p1⟩
    · cases ev
  · cases ev
theorem sPut (C : Cxt D gc cf X sc) {o kk v : Ex} {a b w : Expr} {p pos : Pos} (hb : isSlice b = false) (ho : PE X a (RE gc cf X.K o)) (hk : PE X b (RE gc cf X.K kk)) (hv : PE X w (RE gc cf X.K v)) : PS X (.Assign [.Subscript a b p] w pos) (RS gc cf wf X.K (.put o kk v)) := by
  have h1 : swapsWithSole [.Subscript a b p] w pos.line X.env = pure false := by cases w <;> rfl
  refine ⟨fun pins s0 σ H D' I hh => ?_⟩
  obtain ⟨F, G, θ, s, fl, s', R, ev, k⟩ := hh
  simp only [exS] at ev
  obtain ⟨t, s1, e1, ev⟩ := Rs.bind_eq ev
  obtain ⟨x, s2, e2, ev⟩ := Rs.bind_eq ev
  obtain ⟨y, s3, e3, ev⟩ := Rs.bind_eq ev
  split at ev
  · rename_i n i hh9
    split at ev
    · rename_i l el
      split at ev
      · rename_i j ej
        split at ev
        · rename_i tp
          cases ev
          refine (ps_asg hv (pg_sub ho hk set_list (by intro z; cases b <;> first | rfl | (exact nomatch hb))) h1 (by rfl) (by rfl)).run pins s0 σ H D' I ⟨F, G, θ, s, t, s1, R, e1, fun v1 H1 F1 θ1 R1 l1 p1 r1 => ⟨F1, G, θ1, s1, _, s2, R1, e2, fun v2 H2 F2 θ2 R2 l2 p2 r2 => ⟨F2, G, θ2, s2, _, s3, R2, e3, fun v3 H3 F3 θ3 R3 l3 p3 r3 => ?_⟩⟩⟩
          have r2' := (show Rp _ _ _ _ _ from r2).mono l3 p3
          cases (show Rp _ _ _ _ _ from r3)
          cases r2' with
          | ob hn =>
            obtain ⟨a', q1, q2, q3, zs, q4, q5⟩ := R3.m.ob n _ el
            rw [hn] at q1
            cases q1
            have rt := (r1.rp tp).mono (l2.trans l3) (p2.trans p3)
            exact ⟨_, zs, i, j, rfl, rfl, q4, by rw [q5.length]; exact ej, k _ _ F3 θ3 (R3.memUpd el hn (q5.set rt j)) (l1.trans (l2.trans l3)) (p1.trans (p2.trans p3))⟩
        · cases ev
      · cases ev
    · cases ev
  · cases ev
set_option maxRecDepth 8000 in
theorem extW (l : Addr) (items : Array Value) (n : Nat) (b : Addr) (items2 : Array Value) (n2 : Nat) (dd : Option Addr) (sl : Array (Option Value)) (hs0 : ¬(!items.isEmpty && Builtin.List.listTooLong (items.size + items2.size)) = true) (hs1 : items.size ≤ sizeLine) (hs2 : items.size + items2.size ≤ sizeLine + 1) :
    Meets (Builtin.«list.extend» ⟨[.ref l, .ref b], []⟩) (fun _ R s => s.heap.get? l = some { cls := .type "list", dict := none, data := .seq items n, slots := #[] } ∧ s.heap.get? b = some { cls := .type "tuple", dict := dd, data := .seq items2 n2, slots := sl } ∧ R (.ok (.ret Value.none)) { s with heap := s.heap.update l (Obj.mapSeq fun x => x ++ items2), toks := s.toks }) :=
  .of_wp fun prog w A R s h => by
    obtain ⟨hp, g, d, tk, os⟩ := s; obtain ⟨hl, hb, h⟩ := h; have f1 := PySem.AutoSeq1.idx_int; have f2 := PySem.AutoSeq1.sub_tuple_tuple; have f3 := PySem.AutoSeq1.sub_list_list; have f4 := PySem.AutoSeq1.sub_tuple_list; have f5 := PySem.AutoSeq1.sub_list_tuple
    have hz' : (items ++ items2).size ≤ sizeLine + 1 := by rw [Array.size_append]; exact hs2
    wp_walk using (wpAny_updateSeq hl rfl (hz := hs1) (_hz' := hz')), PySem.AutoSeq1.wpAny_loadPart' hl, PySem.AutoSeq1.wpAny_loadPart' hb; exact ⟨_, rfl, h⟩
theorem mt_extendT : MtM X "list.extend" (fun x vs H Q => ∃ l b xs zs, x = .ref l ∧ vs = [.ref b] ∧ H l = some (.lst xs) ∧ SqT X.K H b zs ∧ xs.length + zs.length ≤ sizeLine ∧ Q .non (upd H l (.lst (xs ++ zs)))) := by
  intro pins s σ H x vs v us Q I rx rv h
  obtain ⟨l, b, xs, zs, rfl, rfl, hH, hB, hz, q⟩ := h
  cases rx
  obtain ⟨u, rfl, ru⟩ := rv.one
  cases ru
  obtain ⟨z, its, n, r, hl, e⟩ := I.lstM hH
  obtain ⟨its2, r2, ⟨⟨cls, dd, data, sl⟩, e2, hc, n2, hd⟩, hl2⟩ := I.tuple hB
  simp only at hc hd
  subst hc hd
  have len2' := r2.length
  have hsz : its.toArray.size + its2.toArray.size ≤ sizeLine := by rw [List.size_toArray, List.size_toArray]; omega
  have hlong : ¬ (!its.toArray.isEmpty && Builtin.List.listTooLong (its.toArray.size + its2.toArray.size)) = true := by
    rw [notLongL hsz, Bool.and_false]
    exact Bool.false_ne_true
  refine call_meets PySem.F.slot_list_extend ⟨_, e, rfl⟩ PySem.F.entry_list_extend (PySem.F.args_list_extend_2 _ _)
    (extW l its.toArray n b its2.toArray n2 dd sl hlong (by rw [List.size_toArray]; omega) (by omega)) ⟨e, e2, ?_⟩
  refine ⟨.non, _, I.lset (its' := its ++ its2) hH e (by simp) (r.append r2) ?_, rfl, q⟩
  rw [List.length_append]
  omega
end
end Ev
/-! Soundness of statements: append, several names at once, small ones, loops. -/
namespace Ev
open PySem PySem.Spec L2
open PyProof.Rows hiding St
section
variable {D : Ds} {gc : List Tr} {cf : CF} {wf : Nat} {X : Cx} {sc : Scope} {K : PySem.W.Frag} {F F' G H : Hp} {θ θ' : List Addr} {s : Sta} {σ : St}
theorem few1 {z : Expr} {env : Env} {cp : Pos} (hst : isStar z = false) : ((backTo cp (starEach [z] env)).all (fun x => !x.1) && (backToKw cp (keywordEach [] env)).all (fun x => x.1.isSome) && decide ([z].length + ([] : List Keyword).length + (if ([] : List Keyword).isEmpty then 0 else 1) < 30)) = true := by
  rw [star_cons hst]
  rfl
theorem sApp {i : Nat} {e : Ex} {x : Str} {p2 ap cp pos : Pos} {z : Expr} (hN : X.N[i]? = some x) (hv : Vis X.env.scope x) (hk : okN x = true) (hl : (ap.endLine == cp.line) = true) (hst : isStar z = false) (he : PE X z (RE gc cf X.K e)) :
    PS X (.Expr (.Call (.Attribute (.Name x p2) "append" ap) [z] [] cp) pos) (RS gc cf wf X.K (.app i e)) := by
  obtain ⟨k1, k2⟩ := okN_ok hk
  refine ⟨fun pins s0 σ H D' I hh => ?_⟩
  obtain ⟨F, G, θ, s, fl, s', R, ev, k⟩ := hh
  simp only [exS] at ev
  split at ev
  · rename_i l0 en
    obtain ⟨t, s1, e1, ev⟩ := Rs.bind_eq ev
    split at ev
    · rename_i l en1
      split at ev
      · rename_i hc
        obtain ⟨h1, h2⟩ := and2 hc
        cases ev
        obtain ⟨a, xs0, ea, ha, _⟩ := R.slot i _ en
        refine (ps_expr (pe_bm PySem.F.plainAttrs_list PySem.F.slot_list_append PySem.F.type_list_append mt_append (pe_var (i := i) hN hv k1 k2) (pa_cons he pa_nil (star_cons hst)) (by rfl) (few1 hst) hl (star_cons hst) (by rfl)) rfl).run pins s0 σ H D' I ⟨_, ea, .inl ⟨rfl, _, SqL.of ha⟩, F, G, θ, s, t, s1, R, e1, fun v H1 F1 θ1 R1 l1 p1 r1 => ?_⟩
        obtain ⟨xs, hx, f, g, tt, q⟩ := R1.ownAt en1 ea
        refine ⟨a, xs, v, rfl, rfl, hx, by rw [q.length]; exact of_decide_eq_true h2, k _ _ F1 θ1 (R1.ownUpd en1 ea (q.append (.cons (r1.rp h1) .nil))) l1 p1⟩
      · cases ev
    · cases ev
  · cases ev
theorem sExt {i : Nat} {e : Ex} {x : Str} {p2 ap cp pos : Pos} {z : Expr} (hN : X.N[i]? = some x) (hv : Vis X.env.scope x) (hk : okN x = true) (hl : (ap.endLine == cp.line) = true) (hst : isStar z = false) (he : PE X z (RE gc cf X.K e)) :
    PS X (.Expr (.Call (.Attribute (.Name x p2) "extend" ap) [z] [] cp) pos) (RS gc cf wf X.K (.ext i e)) := by
  obtain ⟨k1, k2⟩ := okN_ok hk
  refine ⟨fun pins s0 σ H D' I hh => ?_⟩
  obtain ⟨F, G, θ, s, fl, s', R, ev, k⟩ := hh
  simp only [exS] at ev
  split at ev
  · rename_i l0 en
    obtain ⟨t, s1, e1, ev⟩ := Rs.bind_eq ev
    obtain ⟨a, xs0, ea, ha, _⟩ := R.slot i _ en
    split at ev
    · rename_i l m en1
      split at ev
      · rename_i hc
        cases ev
        refine (ps_expr (pe_bm PySem.F.plainAttrs_list PySem.F.slot_list_extend PySem.F.type_list_extend mt_extend (pe_var (i := i) hN hv k1 k2) (pa_cons he pa_nil (star_cons hst)) (by rfl) (few1 hst) hl (star_cons hst) (by rfl)) rfl).run pins s0 σ H D' I ⟨_, ea, .inl ⟨rfl, _, SqL.of ha⟩, F, G, θ, s, _, s1, R, e1, fun v H1 F1 θ1 R1 l1 p1 r1 => ?_⟩
        obtain ⟨xs, hx, f, g, tt, q⟩ := R1.ownAt en1 ea
        obtain ⟨b, ys, rfl, hb, qb⟩ := RpH.of R1.m.fle (r1.rp rfl)
        exact ⟨a, b, xs, ys, rfl, rfl, hx, hb, by rw [q.length, qb.length]; exact hc, k _ _ F1 θ1 (R1.ownUpd en1 ea (q.append qb)) l1 p1⟩
      · cases ev
    · rename_i l m en1
      split at ev
      · rename_i hc
        cases ev
        refine (ps_expr (pe_bm PySem.F.plainAttrs_list PySem.F.slot_list_extend PySem.F.type_list_extend mt_extendT (pe_var (i := i) hN hv k1 k2) (pa_cons he pa_nil (star_cons hst)) (by rfl) (few1 hst) hl (star_cons hst) (by rfl)) rfl).run pins s0 σ H D' I ⟨_, ea, .inl ⟨rfl, _, SqL.of ha⟩, F, G, θ, s, _, s1, R, e1, fun v H1 F1 θ1 R1 l1 p1 r1 => ?_⟩
        obtain ⟨xs, hx, f, g, tt, q⟩ := R1.ownAt en1 ea
        obtain ⟨b, ys, rfl, hb, qb, _⟩ := tupH (RpH.of R1.m.fle (r1.rp rfl)) R1.m.fle
        exact ⟨a, b, xs, ys, rfl, rfl, hx, hb, by rw [q.length, qb.length]; exact hc, k _ _ F1 θ1 (R1.ownUpd en1 ea (q.append qb)) l1 p1⟩
      · cases ev
    · cases ev
  · cases ev
theorem sExp {e : Ex} {v : Expr} {pos : Pos} (hv : isCompE v = false) (he : PE X v (RE gc cf X.K e)) : PS X (.Expr v pos) (RS gc cf wf X.K (.ex e)) := by
  refine ⟨fun pins s0 σ H D' I hh => ?_⟩
  obtain ⟨F, G, θ, s, fl, s', R, ev, k⟩ := hh
  simp only [exS] at ev
  obtain ⟨t, s1, e1, ev⟩ := Rs.bind_eq ev
  cases ev
  exact (ps_expr he (swaps_no hv)).run pins s0 σ H D' I ⟨F, G, θ, s, t, _, R, e1, fun v H1 F1 θ1 R1 l1 p1 r1 => k σ H1 F1 θ1 R1 l1 p1⟩
theorem sRet {e : Ex} {v : Expr} {pos : Pos} (he : PE X v (RE gc cf X.K e)) : PS X (.Return (some v) pos) (RS gc cf wf X.K (.ret e)) := by
  refine ⟨fun pins s0 σ H D' I hh => ?_⟩
  obtain ⟨F, G, θ, s, fl, s', R, ev, k⟩ := hh
  simp only [exS] at ev
  obtain ⟨t, s1, e1, ev⟩ := Rs.bind_eq ev
  split at ev
  · rename_i hp
    cases ev
    exact (ps_ret he).run pins s0 σ H D' I ⟨F, G, θ, s, t, _, R, e1, fun v H1 F1 θ1 R1 l1 p1 r1 => k v σ H1 F1 θ1 R1 l1 p1 (r1.rp hp)⟩
  · cases ev
theorem sRetN {pos : Pos} : PS X (.Return none pos) (RS gc cf wf X.K .retN) := by
  refine ⟨fun pins s0 σ H D' I hh => ?_⟩
  obtain ⟨F, G, θ, s, fl, s', R, ev, k⟩ := hh
  simp only [exS] at ev
  cases ev
  exact ps_retN.run pins s0 σ H D' I (k .non σ H F θ R (FLe.refl F) (List.prefix_refl _) .non)
theorem sBrk {pos : Pos} : PS X (.Break pos) (RS gc cf wf X.K .brk) := by
  refine ⟨fun pins s0 σ H D' I hh => ?_⟩
  obtain ⟨F, G, θ, s, fl, s', R, ev, k⟩ := hh
  simp only [exS] at ev
  cases ev
  exact ps_break.run pins s0 σ H D' I (k σ H F θ R (FLe.refl F) (List.prefix_refl _))
theorem sCont {pos : Pos} : PS X (.Continue pos) (RS gc cf wf X.K .cont) := by
  refine ⟨fun pins s0 σ H D' I hh => ?_⟩
  obtain ⟨F, G, θ, s, fl, s', R, ev, k⟩ := hh
  simp only [exS] at ev
  cases ev
  exact ps_continue.run pins s0 σ H D' I (k σ H F θ R (FLe.refl F) (List.prefix_refl _))
theorem sPass {pos : Pos} : PS X (.Pass pos) (RS gc cf wf X.K .pass) := by
  refine ⟨fun pins s0 σ H D' I hh => ?_⟩
  obtain ⟨F, G, θ, s, fl, s', R, ev, k⟩ := hh
  simp only [exS] at ev
  cases ev
  exact ps_pass.run pins s0 σ H D' I (k σ H F θ R (FLe.refl F) (List.prefix_refl _))
theorem bl_onlyF {r : Rs Tr} {f : Sta → Rs Fl} {g : Sta → Rs Fl} {t : Fl} {s' : Sta} (h : (r.bind fun x s1 => match x with
    | .bl true => f s1
    | .bl false => g s1
    | _ => .no) = .ok t s') : ∃ b s1, r = .ok (.bl b) s1 ∧ (if b = true then f s1 else g s1) = .ok t s' := by
  obtain ⟨x, s1, e1, e2⟩ := Rs.bind_eq h
  cases x with
  | bl b => cases b <;> exact ⟨_, s1, e1, e2⟩
  | _ => cases e2
theorem sIf {c : Ex} {a b : List Sm} {t : Expr} {x y : List Stmt} {pos : Pos} (hc : PT X t (RT gc cf X.K c)) (ha : PSs X x (RSs gc cf wf X.K a)) (hb : PSs X y (RSs gc cf wf X.K b)) : PS X (.If t x y pos) (RS gc cf wf X.K (.ite c a b)) := by
  refine ⟨fun pins s0 σ H D' I hh => ?_⟩
  obtain ⟨F, G, θ, s, fl, s', R, ev, k⟩ := hh
  simp only [exS] at ev
  obtain ⟨d, s1, e1, e2⟩ := bl_onlyF ev
  refine (ps_if hc ha hb).run pins s0 σ H D' I ⟨F, G, θ, s, d, s1, R, e1, fun H1 F1 θ1 R1 l1 p1 => ?_⟩
  cases d with
  | true => exact ⟨F1, G, θ1, s1, fl, s', R1, e2, k.mono l1 p1⟩
  | false => exact ⟨F1, G, θ1, s1, fl, s', R1, e2, k.mono l1 p1⟩
theorem sNil : PSs X [] (RSs gc cf wf X.K []) := by
  refine ⟨fun pins s0 σ H D' I hh => ?_⟩
  obtain ⟨F, G, θ, s, fl, s', R, ev, k⟩ := hh
  simp only [exSs] at ev
  cases ev
  exact pss_nil.run pins s0 σ H D' I (k σ H F θ R (FLe.refl F) (List.prefix_refl _))
theorem sCons {a : Sm} {b : List Sm} {x : Stmt} {y : List Stmt} (ha : PS X x (RS gc cf wf X.K a)) (hb : PSs X y (RSs gc cf wf X.K b)) : PSs X (x :: y) (RSs gc cf wf X.K (a :: b)) := by
  refine ⟨fun pins s0 σ H D' I hh => ?_⟩
  obtain ⟨F, G, θ, s, fl, s', R, ev, k⟩ := hh
  simp only [exSs] at ev
  obtain ⟨f, s1, e1, e2⟩ := Rs.bind_eq ev
  refine (pss_cons ha hb).run pins s0 σ H D' I ⟨F, G, θ, s, f, s1, R, e1, ?_⟩
  cases f with
  | next => exact fun σ1 H1 F1 θ1 R1 l1 p1 => ⟨F1, G, θ1, s1, fl, s', R1, e2, k.mono l1 p1⟩
  | brk => cases e2; exact k
  | cont => cases e2; exact k
  | ret t => cases e2; exact k
theorem Cxt.passes (C : Cxt D gc cf X sc) : PassesOwn (model X.prog X.w) X.A X.env X.xe := by rw [C.xe]; exact PassesOwn.never
theorem sWhile (C : Cxt D gc cf X sc) {c : Ex} {b : List Sm} {t : Expr} {y : List Stmt} {pos : Pos} (hc : PT X t (RT gc cf X.K c)) (hb : PSs X y (RSs gc cf wf X.K b)) : PS X (.While t y [] pos) (RS gc cf wf X.K (.whl c b)) := by
  refine ⟨fun pins s0 σ H D' I hh => ?_⟩
  obtain ⟨F, G, θ, s, fl, s', R, ev, k⟩ := hh
  simp only [exS] at ev
  refine (ps_while C.passes hc hb).run pins s0 σ H D' I ⟨fun m σ H => ∃ F1 θ1 s1, Rel X.K F1 G θ1 s1 σ H ∧ FLe F F1 ∧ θ <+: θ1 ∧ whGo (evX gc cf c true) (exSs gc cf wf b) m s1 = .ok fl s', ⟨wf, F, θ, s, R, FLe.refl F, List.prefix_refl _, ev⟩, ?_⟩
  rintro m σ1 H1 ⟨F1, θ1, s1, R1, l1, p1, ev⟩
  cases m with
  | zero => simp only [whGo] at ev; cases ev
  | succ m =>
    simp only [whGo] at ev
    cases ec : evX gc cf c true s1 with
    | no => rw [ec] at ev; cases ev
    | ok tv s2 =>
      rw [ec] at ev
      cases tv with
      | bl d =>
        refine ⟨F1, G, θ1, s1, d, s2, R1, ec, fun H2 F2 θ2 R2 l2 p2 => ?_⟩
        cases d with
        | false =>
          cases ev
          rw [if_neg Bool.false_ne_true]
          exact k σ1 H2 F2 θ2 R2 (l1.trans l2) (p1.trans p2)
        | true =>
          rw [if_pos rfl]
          dsimp only at ev
          cases eb : exSs gc cf wf b s2 with
          | no => rw [eb] at ev; cases ev
          | ok f s3 =>
            rw [eb] at ev
            refine ⟨fun σ' H' => ∃ F3 θ3, Rel X.K F3 G θ3 s3 σ' H' ∧ FLe F F3 ∧ θ <+: θ3 ∧ whGo (evX gc cf c true) (exSs gc cf wf b) m s3 = .ok fl s', fun σ' H' ⟨F3, θ3, R3, l3, p3, e3⟩ => ⟨m, Nat.lt_succ_self m, F3, θ3, s3, R3, l3, p3, e3⟩, F2, G, θ2, s2, f, s3, R2, eb, ?_⟩
            have l12 := l1.trans l2
            have p12 := p1.trans p2
            cases f with
            | next => exact fun σ3 H3 F3 θ3 R3 l3 p3 => ⟨F3, θ3, R3, l12.trans l3, p12.trans p3, ev⟩
            | cont => exact fun σ3 H3 F3 θ3 R3 l3 p3 => ⟨F3, θ3, R3, l12.trans l3, p12.trans p3, ev⟩
            | brk => cases ev; exact fun σ3 H3 F3 θ3 R3 l3 p3 => k σ3 H3 F3 θ3 R3 (l12.trans l3) (p12.trans p3)
            | ret t => cases ev; exact fun v σ3 H3 F3 θ3 R3 l3 p3 r => k v σ3 H3 F3 θ3 R3 (l12.trans l3) (p12.trans p3) r
      | _ => cases ev
theorem sFor (C : Cxt D gc cf X sc) {k : Nat} {tg : Tg} {its : List Ex} {b : List Sm} {tge iter : Expr} {y : List Stmt} {pos : Pos} (hS : isSetE iter = false) (hT : chkT X.N sc tg tge = true) (hI : PI X tge iter (RI gc cf X.K k its)) (hb : PSs X y (RSs gc cf wf X.K b)) :
    PS X (.For tge iter y [] pos) (RS gc cf wf X.K (.forr k tg its b)) := by
  have hs : ∀ x, foldedSetIterable iter X.env x = pure x := fun x => by cases iter <;> first | rfl | (exact nomatch hS)
  refine ⟨fun pins s0 σ H D' I hh => ?_⟩
  obtain ⟨F, G, θ, s, fl, s', R, ev, kk⟩ := hh
  simp only [exS] at ev
  obtain ⟨vs, s1, e1, ev⟩ := Rs.bind_eq ev
  split at ev
  · rename_i hp
    split at ev
    · rename_i xs hi
      have hd : vs.map s1.deref = vs := by
        have : ∀ l : List Tr, l.all Tr.pure = true → l.map s1.deref = l := by
          intro l
          induction l with
          | nil => intro _; rfl
          | cons t l ih =>
            intro h
            rw [List.all_cons, Bool.and_eq_true] at h
            rw [List.map_cons, ih h.2]
            cases t <;> first | rfl | (exact nomatch h.1)
        exact this vs hp
      refine (ps_for C.passes C.calm hI (sT C.nd C.calm C.loc tg tge hT) hb hs).run pins s0 σ H D' I ⟨F, G, θ, s, vs, s1, xs, R, e1, by rw [hd]; exact hp, by rw [hd]; exact hi, fun J H1 F1 θ1 R1 l1 p1 wk => ?_⟩
      refine for_it wk (fun i σ' H' => ∃ F' θ' s2, Rel X.K F' G θ' s2 σ' H' ∧ FLe F1 F' ∧ θ1 <+: θ' ∧ forGo tg (exSs gc cf wf b) (xs.drop i) s2 = .ok fl s') ?_ ?_ ?_ ?_
      · exact ⟨F1, θ1, s1, R1, FLe.refl _, List.prefix_refl _, ev⟩
      · rintro i σ' H' _ ⟨F', θ', s2, R2, l', p', _⟩
        exact ⟨l'.trans R2.m.fle, .inl hp⟩
      · rintro i x σ' H' H'' hlt ⟨F', θ', s2, R2, l', p', eg⟩ ⟨t, ht, hy⟩
        have ed : xs.drop i = t :: xs.drop (i + 1) := by
          obtain ⟨h1, h2⟩ := List.getElem?_eq_some_iff.mp ht
          rw [List.drop_eq_getElem_cons h1, h2]
        rw [ed] at eg
        simp only [forGo] at eg
        obtain ⟨F2, lF2, R3, rt⟩ : ∃ F2, FLe F' F2 ∧ Rel X.K F2 G θ' s2 σ' H'' ∧ Rp X.K F2 θ' t x := by
          rcases hy with ⟨rfl, rr⟩ | ⟨p, l, ws, np, rfl, rfl, rfl, rr, _⟩
          · exact ⟨F', FLe.refl _, R2, rr.mono l' p'⟩
          · have fp := R2.m.fle.none np
            exact ⟨_, FLe.upd1 fp, R2.newF np, .tup (SqT.of upd_same) (rr.mono (l'.trans (FLe.upd1 fp)) p')⟩
        cases ea : asg tg t s2.env with
        | none => rw [ea] at eg; cases eg
        | some env1 =>
          rw [ea] at eg
          dsimp only at eg
          refine ⟨F2, G, θ', s2.env, s2.mem, t, env1, R3, rt, ea, fun σ3 R4 _ => ?_⟩
          cases eb : exSs gc cf wf b ⟨env1, s2.mem⟩ with
          | no => rw [eb] at eg; cases eg
          | ok f s3 =>
            rw [eb] at eg
            refine ⟨F2, G, θ', ⟨env1, s2.mem⟩, f, s3, R4, eb, ?_⟩
            have lA := l'.trans lF2
            cases f with
            | next => exact fun σ5 H5 F5 θ5 R5 l5 p5 => ⟨F5, θ5, s3, R5, lA.trans l5, p'.trans p5, eg⟩
            | cont => exact fun σ5 H5 F5 θ5 R5 l5 p5 => ⟨F5, θ5, s3, R5, lA.trans l5, p'.trans p5, eg⟩
            | brk => cases eg; exact fun σ5 H5 F5 θ5 R5 l5 p5 => kk σ5 H5 F5 θ5 R5 (l1.trans (lA.trans l5)) (p1.trans (p'.trans p5))
            | ret t => cases eg; exact fun v σ5 H5 F5 θ5 R5 l5 p5 r => kk v σ5 H5 F5 θ5 R5 (l1.trans (lA.trans l5)) (p1.trans (p'.trans p5)) r
      · rintro σ' H' ⟨F', θ', s2, R2, l', p', eg⟩
        rw [List.drop_length] at eg
        simp only [forGo] at eg
        cases eg
        exact kk σ' H' F' θ' R2 (l1.trans l') (p1.trans p')
    · cases ev
  · cases ev
end
end Ev
/-! Soundness of statements: several names at once; the theorem. -/
namespace Ev
open PySem PySem.Spec L2
open PyProof.Rows hiding St
section
variable {D : Ds} {gc : List Tr} {cf : CF} {wf : Nat} {X : Cx} {sc : Scope} {K : PySem.W.Frag} {F F' G H : Hp} {θ θ' : List Addr} {s : Sta} {σ : St}
/-- values for names; the own ones stand at addresses ps, guarded -/
inductive MOk (K : PySem.W.Frag) (F G : Hp) (θ : List Addr) : List (Nat × Bool) → List Tr → List V → List Addr → Prop
  | nil : MOk K F G θ [] [] [] []
  | val {i : Nat} {is : List (Nat × Bool)} {t : Tr} {ts : List Tr} {v : V} {vs : List V} {ps : List Addr} : Rp K F θ t v → MOk K F G θ is ts vs ps → MOk K F G θ ((i, false) :: is) (t :: ts) (v :: vs) ps
  | own {i : Nat} {is : List (Nat × Bool)} {l : List Tr} {ts : List Tr} {a : Addr} {xs : List V} {vs : List V} {ps : List Addr} : G a = some (.lst xs) → Rps K F θ l xs → a ∉ ps → MOk K F G θ is ts vs ps → MOk K F G θ ((i, true) :: is) (.lst l :: ts) (.ref a :: vs) (a :: ps)
theorem MOk.mono {G G' : Hp} (hF : FLe F F') (hθ : θ <+: θ') : ∀ {is : List (Nat × Bool)} {ts : List Tr} {vs : List V} {ps : List Addr}, (∀ a ∈ ps, G' a = G a) → MOk K F G θ is ts vs ps → MOk K F' G' θ' is ts vs ps
  | _, _, _, _, _, .nil => .nil
  | _, _, _, _, h, .val r m => .val (r.mono hF hθ) (m.mono hF hθ h)
  | _, _, _, _, h, .own g r n m => .own (by rw [h _ List.mem_cons_self]; exact g) (r.mono hF hθ) n (m.mono hF hθ fun b hb => h b (List.mem_cons_of_mem _ hb))
theorem MOk.len : ∀ {is : List (Nat × Bool)} {ts : List Tr} {vs : List V} {ps : List Addr}, MOk K F G θ is ts vs ps → vs.length = is.length
  | _, _, _, _, .nil => rfl
  | _, _, _, _, .val _ m => by rw [List.length_cons, List.length_cons, m.len]
  | _, _, _, _, .own _ _ _ m => by rw [List.length_cons, List.length_cons, m.len]
def remG (G : Hp) (a : Addr) : Hp := fun b => if b = a then none else G b
theorem remG_le {a : Addr} : FLe (remG G a) G := fun b o e => by
  unfold remG at e
  split at e
  · cases e
  · exact e
theorem remG_at {a : Addr} : remG G a a = none := by unfold remG; rw [if_pos rfl]
theorem remG_ne {a b : Addr} (h : b ≠ a) : remG G a b = G b := by unfold remG; rw [if_neg h]
def setAll : St → List (Nat × Bool) → List V → St
  | σ, (i, _) :: is, v :: vs => setAll (σ.set i (some v)) is vs
  | σ, _, _ => σ
theorem manyRel {m : List Ob} : ∀ (is : List (Nat × Bool)) (ts : List Tr) (vs : List V) (ps : List Addr) (env env' : List Slot) (σ : St) (G' : Hp), MOk K F G' θ is ts vs ps → manyGo is ts env = some env' → Rel K F G' θ ⟨env, m⟩ σ H →
    FLe G G' → (∀ a ∈ ps, G a = none) → Rel K F G θ ⟨env', m⟩ (setAll σ is vs) H
  | _, _, _, _, env, env', σ, G', .nil, e, R, l, _ => by
    simp only [manyGo] at e
    cases e
    exact R.weakG l
  | (i, false) :: is, t :: ts, v :: vs, ps, env, env', σ, G', .val r mo, e, R, l, h => by
    simp only [manyGo] at e
    split at e
    · rename_i hi
      exact manyRel is ts vs ps _ env' _ G' mo e (R.store r hi) l h
    · cases e
  | (i, true) :: is, .lst ll :: ts, .ref a :: vs, _ :: ps, env, env', σ, G', .own g r n mo, e, R, l, h => by
    simp only [manyGo] at e
    split at e
    · rename_i hi
      have R1 : Rel K F (remG G' a) θ ⟨env, m⟩ σ H := R.weakG remG_le
      have R2 := R1.storeOwn (i := i) r (R.m.gle a _ g) (R.m.fg a _ g) remG_at (R.m.gth g) (fun j l' _ ej z => by
        obtain ⟨zs, _, _, q, _⟩ := R.ownAt ej z
        rw [g] at q
        cases q) hi
      refine manyRel is ts vs ps _ env' _ (remG G' a) (mo.mono (FLe.refl F) (List.prefix_refl _) fun b hb => remG_ne fun z => ?_) e R2 (fun b o eb => ?_) fun b hb => h b (List.mem_cons_of_mem _ hb)
      · subst z; exact n hb
      · have ne : b ≠ a := fun z => by
          subst z
          rw [h b List.mem_cons_self] at eb
          cases eb
        rw [remG_ne ne]
        exact l b o eb
    · cases e
/-- one more thing is guarded -/
theorem Rel.guard {p : Addr} {o : HO} (R : Rel K F G θ s σ H) (h : H p = some o) (f : F p = none) (t : p ∉ θ) (ow : ∀ (i : Nat) (l : List Tr), s.env[i]? = some (Slot.own l) → σ[i]? ≠ some (some (V.ref p))) : Rel K F (upd G p o) θ s σ H := by
  refine ⟨R.m.guard h f t, R.len, fun i x e => ?_, R.dis⟩
  have r := R.slot i x e
  cases x with
  | none => exact r
  | val t => exact r
  | own l =>
    obtain ⟨a, xs, e1, h1, f1, g1, t1, q⟩ := r
    have ne : a ≠ p := fun z => ow i l e (z ▸ e1)
    exact ⟨a, xs, e1, h1, f1, by rw [upd_ne ne]; exact g1, t1, q⟩
/-- a fresh list is laid and guarded -/
theorem Rel.pend {p : Addr} {xs : List V} (R : Rel K F G θ s σ H) (n : H p = none) : Rel K F (upd G p (.lst xs)) θ s σ (upd H p (.lst xs)) := by
  have np : p ∉ θ := fun hm => by
    obtain ⟨k, hk⟩ := List.getElem?_of_mem hm
    have hlt : k < θ.length := (List.getElem?_eq_some_iff.mp hk).1
    obtain ⟨b, q1, _, _, q4⟩ := R.m.ob k (s.mem[k]'(by rw [R.m.len]; exact hlt)) (by simp)
    rw [hk] at q1
    cases q1
    cases q5 : (s.mem[k]'(by rw [R.m.len]; exact hlt))
    rw [q5] at q4
    obtain ⟨zs, q, _⟩ := q4
    rw [n] at q
    cases q
  refine (R.junk (o := .lst xs) n).guard upd_same (R.m.fle.none n) np fun i l e z => ?_
  obtain ⟨zs, q, _⟩ := R.ownAt e z
  rw [n] at q
  cases q
def RM (gc : List Tr) (cf : CF) (K : PySem.W.Frag) (is : List (Nat × Bool)) (es : List Ex) : TA := fun σ H Q => ∃ F G θ s ts s', Rel K F G θ s σ H ∧ evEs gc cf es s = .ok ts s' ∧ ts.all Tr.pure = true ∧
  ∀ vs H' F' G' θ' ps, Rel K F' G' θ' s' σ H' → FLe F F' → FLe G G' → θ <+: θ' → MOk K F' G' θ' is ts vs ps → (∀ a ∈ ps, G a = none) → Q vs H'
theorem sM (C : Cxt D gc cf X sc) : ∀ (is : List (Nat × Bool)) (es : List Ex) (xs : List Expr), dispOk is es = true → chks D X.N sc es xs = true → PA X xs (RM gc cf X.K is es)
  | [], [], xs, hd, h => by
    cases xs with
    | cons _ _ => exact nomatch h
    | nil =>
      refine ⟨fun p pins s0 σ H Q I hh => ?_⟩
      obtain ⟨F, G, θ, s, ts, s', R, ev, _, k⟩ := hh
      simp only [evEs] at ev
      cases ev
      exact pa_nil.run p pins s0 σ H Q I (k [] H F G θ [] R (FLe.refl F) (FLe.refl G) (List.prefix_refl _) .nil (fun _ z => nomatch z))
  | [], _ :: _, _, hd, _ => nomatch hd
  | _ :: _, [], _, hd, _ => by simp only [dispOk] at hd; cases hd
  | (i, o) :: is, e :: es, xs, hd, h => by
    cases xs with
    | nil => exact nomatch h
    | cons x xs =>
      simp only [chks] at h
      obtain ⟨h1, h2⟩ := and2 h
      obtain ⟨h1, h3⟩ := and2 h1
      simp only [dispOk] at hd
      obtain ⟨hd1, hd2⟩ := and2 hd
      have hst : isStar x = false := by simpa using h1
      have rest := sM C is es xs hd2 h2
      cases o with
      | false =>
        have p1 := (sX e X sc x C h3).pe
        refine ⟨fun p pins s0 σ H Q I hh => ?_⟩
        obtain ⟨F, G, θ, s, ts, s', R, ev, hp, k⟩ := hh
        simp only [evEs] at ev
        obtain ⟨t, s1, e1, ev⟩ := Rs.bind_eq ev
        obtain ⟨ts', s2, e2, ev⟩ := Rs.bind_eq ev
        cases ev
        rw [List.all_cons, Bool.and_eq_true] at hp
        exact (pa_cons p1 rest (star_cons hst)).run p pins s0 σ H Q I ⟨F, G, θ, s, t, s1, R, e1, fun v H1 F1 θ1 R1 l1 p1' r1 => ⟨F1, G, θ1, s1, ts', _, R1, e2, hp.2, fun vs H2 F2 G2 θ2 ps R2 l2 g2 p2' mo hps =>
          k (v :: vs) H2 F2 G2 θ2 ps R2 (l1.trans l2) g2 (p1'.trans p2') (.val ((r1.rp hp.1).mono l2 p2') mo) hps⟩⟩
      | true =>
        have fin : ∀ {t : TE}, PE X x t → (∀ {σ : St} {H : Hp} {Q : VK} {F G : Hp} {θ : List Addr} {s : Sta} {l : List Tr} {s1 : Sta}, Rel X.K F G θ s σ H → evX gc cf e false s = .ok (.lst l) s1 →
            (∀ p xs H1 F1 θ1, H1 p = none → Rel X.K F1 G θ1 s1 σ H1 → FLe F F1 → θ <+: θ1 → Rps X.K F1 θ1 l xs → Q (.ref p) (upd H1 p (.lst xs))) → t σ H Q) →
            (∀ {s : Sta} {t : Tr} {s1 : Sta}, evX gc cf e false s = .ok t s1 → ∃ l, t = .lst l) → PA X (x :: xs) (RM gc cf X.K ((i, true) :: is) (e :: es)) := by
          intro tt pe hr hl
          refine ⟨fun p pins s0 σ H Q I hh => ?_⟩
          obtain ⟨F, G, θ, s, ts, s', R, ev, hp, k⟩ := hh
          simp only [evEs] at ev
          obtain ⟨t, s1, e1, ev⟩ := Rs.bind_eq ev
          obtain ⟨ts', s2, e2, ev⟩ := Rs.bind_eq ev
          cases ev
          rw [List.all_cons, Bool.and_eq_true] at hp
          obtain ⟨l, rfl⟩ := hl e1
          refine (pa_cons pe rest (star_cons hst)).run p pins s0 σ H Q I (hr R e1 fun a zs H1 F1 θ1 na R1 l1 p1' r => ?_)
          have ga : G a = none := R1.m.gle.none na
          refine ⟨F1, upd G a (.lst zs), θ1, s1, ts', _, R1.pend na, e2, hp.2, fun vs H2 F2 G2 θ2 ps R2 l2 g2 p2' mo hps => ?_⟩
          have nps : a ∉ ps := fun z => by have := hps a z; rw [upd_same] at this; cases this
          refine k (.ref a :: vs) H2 F2 G2 θ2 (a :: ps) R2 (l1.trans l2) (fun b o eb => g2 b o (by rw [upd_ne (ne_of_none eb ga)]; exact eb)) (p1'.trans p2') (.own (g2 a _ upd_same) (r.mono l2 p2') nps mo) fun b hb => ?_
          rcases List.mem_cons.mp hb with rfl | hb
          · exact ga
          · have := hps b hb
            have ne : b ≠ a := fun z => nps (z ▸ hb)
            rwa [upd_ne ne] at this
        cases e with
        | lst es0 =>
          simp only [chk] at h3
          split at h3
          · have pa := sEs es0 X sc _ C h3
            refine fin (pe_lst pa) (fun {σ H Q F G θ s l s1} R ev k => ?_) (fun {s t s1} ev => ?_)
            · simp only [evX, fin] at ev
              obtain ⟨ts, s2, e1, ev⟩ := Rs.bind_eq ev
              split at ev
              · rename_i hc
                obtain ⟨q1, q2⟩ := all_pure hc
                cases ev
                refine ⟨F, G, θ, s, _, _, R, e1, fun vs H1 F1 θ1 R1 l1 p1 r1 => ?_⟩
                have r := r1.rps q1
                exact ⟨by rw [r.length]; exact q2, fun p np => k p vs H1 F1 θ1 np R1 l1 p1 r⟩
              · cases ev
            · simp only [evX, fin] at ev
              obtain ⟨ts, s2, e1, ev⟩ := Rs.bind_eq ev
              split at ev
              · cases ev; exact ⟨_, rfl⟩
              · cases ev
          · cases h3
        | bi b es0 =>
          cases b <;> first | (exact (Bool.false_ne_true hd1).elim) | skip
          simp only [chk] at h3
          split at h3
          · rename_i y p1 xs1 p2 hdum
            obtain ⟨h4, h5⟩ := and2 h3
            obtain ⟨e1', g1, m1⟩ := blB_ok C h4
            subst e1'
            have pa := sEs es0 X sc _ C h5
            cases es0 with
            | nil =>
              refine ⟨fun p pins s0 σ H Q I hh => ?_⟩
              obtain ⟨F, G, θ, s, ts, s', R, ev, hp, k⟩ := hh
              simp only [evEs, evX, fin] at ev
              obtain ⟨t, s1, e1, ev⟩ := Rs.bind_eq ev
              simp only [Rs.bind, List.map_nil, List.all_nil, if_true, biT_nil, Rs.of] at e1
              cases e1
            | cons e0 es1 =>
              cases xs1 with
              | nil => exact nomatch h5
              | cons z zs =>
                simp only [chks] at h5
                obtain ⟨h6, h7⟩ := and2 h5
                obtain ⟨h6, h8⟩ := and2 h6
                have lo : ∀ {ts : List Tr} {t : Tr}, biT .listOf ts = some t → ∃ x l, ts = [x] ∧ seqT x = some l ∧ t = .lst l := by
                  intro ts t h
                  unfold biT at h
                  split at h
                  all_goals first
                    | (cases h; done)
                    | contradiction
                    | (cases h; exact ⟨_, _, rfl, rfl, rfl⟩)
                refine fin (pe_callTy (T := "list") call_list_of g1 m1 (by decide +kernel) pa (by decide) (by decide) (star_cons (by simpa using h6)) (chks_plain h7)) (fun {σ H Q F G θ s l s1} R ev k => ?_) (fun {s t s1} ev => ?_)
                · simp only [evX, fin] at ev
                  obtain ⟨ts, s2, e1, ev⟩ := Rs.bind_eq ev
                  split at ev
                  · rename_i hpp
                    obtain ⟨e2, rfl⟩ := Rs.of_eq ev
                    obtain ⟨x0, l0, e3, e4, e5⟩ := lo e2
                    cases e5
                    refine ⟨F, G, θ, s, ts, _, R, e1, fun vs H1 F1 θ1 R1 l1 p1 r1 => ?_⟩
                    have rr := R1.reads r1 hpp
                    rw [e3] at rr
                    cases rr with
                    | cons q1 q2 =>
                      cases q2
                      obtain ⟨a, ws, rfl, q, r⟩ := seqH R1.m.fle e4 q1
                      exact ⟨a, ws, rfl, q, fun p np => k p ws H1 F1 θ1 np R1 l1 p1 r⟩
                  · cases ev
                · simp only [evX, fin] at ev
                  obtain ⟨ts, s2, e1, ev⟩ := Rs.bind_eq ev
                  split at ev
                  · obtain ⟨e2, rfl⟩ := Rs.of_eq ev
                    obtain ⟨x0, l0, e3, e4, e5⟩ := lo e2
                    exact ⟨l0, e5⟩
                  · cases ev
          · cases h3
        | _ => exact (Bool.false_ne_true hd1).elim
/-! names as targets -/
def chkN (N : List Str) (sc : Scope) : List (Nat × Bool) → List Expr → Bool
  | [], ts => match ts with
    | [] => true
    | _ => false
  | (i, _) :: is, ts => match ts with
    | .Name x _ :: ts => decide (N[i]? = some x) && locB sc x && chkN N sc is ts
    | _ => false
theorem sNs (C : Cxt D gc cf X sc) : ∀ (is : List (Nat × Bool)) (ts : List Expr), chkN X.N sc is ts = true → PGs X ts (fun vs σ H Q => vs.length = is.length ∧ Q (setAll σ is vs) H) ∧ (assignEach ts X.env).length = is.length ∧ (assignEach ts X.env).findIdx? (·.1) = none
  | [], ts, h => by
    cases ts with
    | cons _ _ => exact nomatch h
    | nil =>
      refine ⟨⟨fun pins s0 σ H vs us Q I r q => ?_⟩, rfl, rfl⟩
      obtain ⟨h1, h2⟩ := q
      have : vs = [] := List.length_eq_zero_iff.mp h1
      subst this
      exact pgs_nil.run pins s0 σ H [] us Q I r ⟨rfl, h2⟩
  | (i, o) :: is, ts, h => by
    cases ts with
    | nil => exact nomatch h
    | cons t ts =>
      simp only [chkN] at h
      split at h
      · rename_i x px ts' heq
        cases heq
        obtain ⟨h1, h2⟩ := and2 h
        obtain ⟨h1, h3⟩ := and2 h1
        obtain ⟨hl, hf⟩ := C.loc x h3
        obtain ⟨g1, g2, g3⟩ := sNs C is _ h2
        refine ⟨⟨fun pins s0 σ H vs us Q I r q => ?_⟩, ?_, ?_⟩
        · obtain ⟨q1, q2⟩ := q
          cases vs with
          | nil => cases q1
          | cons v vs =>
            exact (pgs_cons (pg_name (i := i) C.nd (of_decide_eq_true h1) hl hf) g1 (by rfl)).run pins s0 σ H (v :: vs) us Q I r ⟨v, vs, rfl, by simpa using q1, q2⟩
        · show ((false, _) :: assignEach _ X.env).length = _
          rw [List.length_cons, g2, List.length_cons]
        · show ((false, _) :: assignEach _ X.env).findIdx? _ = none
          rw [List.findIdx?_cons]
          simp [g3]
      · cases h
theorem len3 {α : Type} {l : List α} (h : l.length = 3) : ∃ a b c, l = [a, b, c] := by
  match l, h with
  | [a, b, c], _ => exact ⟨a, b, c, rfl⟩
theorem chkN_len {N : List Str} : ∀ {is : List (Nat × Bool)} {ts : List Expr}, chkN N sc is ts = true → ts.length = is.length
  | [], ts, h => by
    cases ts with
    | cons _ _ => exact nomatch h
    | nil => rfl
  | (i, o) :: is, ts, h => by
    cases ts with
    | nil => exact nomatch h
    | cons t ts =>
      simp only [chkN] at h
      split at h
      · rename_i heq
        cases heq
        rw [List.length_cons, List.length_cons, chkN_len (and2 h).2]
      · cases h
theorem swQ_len {ts vs : List Expr} {ns : List Str} (h : swQ sc ts vs = some (some ns)) : (ts.length = 2 ∧ vs.length = 2) ∨ (ts.length = 3 ∧ vs.length = 3) := by
  unfold swQ at h
  split at h
  · cases h
  · rename_i c
    simp at c
    omega
theorem sMany (C : Cxt D gc cf X sc) (hsc : X.env.scope = sc) (hfun : sc.kind = .function) {is : List (Nat × Bool)} {es : List Ex} {ts vs : List Expr} {k1 k2 : Nat} {p1 p2 pos : Pos} (hz : is.length ≤ sizeLine) (hn : chkN X.N sc is ts = true) (hd : dispOk is es = true) (hc : chks D X.N sc es vs = true)
    (hsw : (match swQ sc ts vs with
      | none => false
      | some none => true
      | some (some ns) => decide (ns = is.map fun p => X.N.getD p.1 "") && (is.map (·.1)).all (fun i => sc.names.lookup (X.N.getD i "") == some .local) && decide ((is.map (·.1)).Nodup)) = true) : PS X (.Assign [.Tuple ts k1 p1] (.Tuple vs k2 p2) pos) (RS gc cf wf X.K (.many is es)) := by
  have pm := sM C is es vs hd hc
  obtain ⟨g1, g2, g3⟩ := sNs C is ts hn
  have rd : ∀ {σ : St} {H : Hp} {D' : Ends}, RS gc cf wf X.K (.many is es) D' σ H → RM gc cf X.K is es σ H (fun ws H1 => ws.length = is.length ∧ ws.length ≤ sizeLine ∧ D'.nx (setAll σ is ws) H1 ∧ ∀ p xs, H1 p = none → D'.nx (setAll σ is ws) (upd H1 p (.tup xs))) := by
    intro σ H D' hh
    obtain ⟨F, G, θ, s, fl, s', R, ev, k⟩ := hh
    simp only [exS] at ev
    obtain ⟨tt, s1, e1, ev⟩ := Rs.bind_eq ev
    split at ev
    · rename_i hp
      split at ev
      · rename_i env em
        cases ev
        refine ⟨F, G, θ, s, tt, s1, R, e1, hp, fun ws H' F' G' θ' ps R' l' lg p' mo hps => ⟨mo.len, ?_, ?_, fun p xs np => ?_⟩⟩
        · rw [mo.len]; exact hz
        · exact k _ _ F' θ' (manyRel is tt ws ps _ _ _ G' mo em R' lg hps) l' p'
        · exact k _ _ F' θ' (manyRel is tt ws ps _ _ _ G' mo em (R'.junk np) lg hps) l' p'
      · cases ev
    · cases ev
  have hk : X.env.scope.kind = .function := by rw [hsc]; exact hfun
  split at hsw
  · cases hsw
  · rename_i hq
    have w1 : swappedStores [.Tuple ts k1 p1] (.Tuple vs k2 p2) X.env = pure none := swQ_ok hk (by rw [hsc]; exact hq)
    refine ⟨fun pins s0 σ H D' I hh => ?_⟩
    refine (ps_asg (pe_tup pm) (pg_tup (n := is.length) C.calm g1 g2 g3) (by rfl) w1 (by rfl)).run pins s0 σ H D' I ?_
    obtain ⟨F, G, θ, s, tt, s', R, e, hp, k⟩ := rd hh
    refine ⟨F, G, θ, s, tt, s', R, e, hp, fun ws H' F' G' θ' ps R' l' lg p' mo hps => ?_⟩
    obtain ⟨q1, q2, _, q3⟩ := k ws H' F' G' θ' ps R' l' lg p' mo hps
    exact ⟨q2, fun p np => ⟨p, ws, rfl, SqT.of upd_same, q1, q1, q3 p ws np⟩⟩
  · rename_i ns hq
    obtain ⟨h1, h2⟩ := and2 hsw
    obtain ⟨h1, h3⟩ := and2 h1
    have hns := of_decide_eq_true h1
    have hnd := of_decide_eq_true h2
    have w1 : swappedStores [.Tuple ts k1 p1] (.Tuple vs k2 p2) X.env = pure (some ns) := swQ_ok hk (by rw [hsc]; exact hq)
    have hl := swQ_len hq
    have hl2 := chkN_len hn
    rcases hl with ⟨l2, lv⟩ | ⟨l3, lv⟩
    · obtain ⟨t1, t2, rfl⟩ := len2 l2
      obtain ⟨⟨i, o1⟩, ⟨j, o2⟩, rfl⟩ := len2 (hl2.symm.trans l2)
      obtain ⟨v1, v2, rfl⟩ := len2 lv
      simp only [chkN] at hn
      split at hn
      · rename_i x px _ heq
        cases heq
        obtain ⟨hA, hB⟩ := and2 hn
        obtain ⟨hA, _⟩ := and2 hA
        split at hB
        · rename_i y py _ heq
          cases heq
          obtain ⟨hC, _⟩ := and2 hB
          obtain ⟨hC, _⟩ := and2 hC
          have ni := of_decide_eq_true hA
          have nj := of_decide_eq_true hC
          simp only [List.map_cons, List.map_nil, List.all_cons, List.all_nil, Bool.and_true] at h3 hns hnd
          obtain ⟨h4, h5⟩ := and2 h3
          have ei : X.N.getD i "" = x := by rw [List.getD_eq_getElem?_getD, ni]; rfl
          have ej : X.N.getD j "" = y := by rw [List.getD_eq_getElem?_getD, nj]; rfl
          rw [ei, ej] at hns
          rw [ei] at h4
          rw [ej] at h5
          subst hns
          have hij : i ≠ j := fun z => by subst z; simp at hnd
          refine ⟨fun pins s0 σ H D' I hh => ?_⟩
          refine (ps_par C.calm C.nd ni nj hij (by rw [hsc]; exact eq_of_beq h4) (by rw [hsc]; exact eq_of_beq h5) pm w1 (by rfl)).run pins s0 σ H D' I ?_
          obtain ⟨F, G, θ, s, tt, s', R, e, hp, k⟩ := rd hh
          refine ⟨F, G, θ, s, tt, s', R, e, hp, fun ws H' F' G' θ' ps R' l' lg p' mo hps => ?_⟩
          obtain ⟨q1, q2, q4, q3⟩ := k ws H' F' G' θ' ps R' l' lg p' mo hps
          obtain ⟨w1, w2, rfl⟩ := len2 q1
          exact ⟨w1, w2, rfl, q4⟩
        · cases hB
      · cases hn
    · obtain ⟨t1, t2, t3, rfl⟩ := len3 l3
      obtain ⟨⟨i, o1⟩, ⟨j, o2⟩, ⟨l, o3⟩, rfl⟩ := len3 (hl2.symm.trans l3)
      obtain ⟨v1, v2, v3, rfl⟩ := len3 lv
      simp only [chkN] at hn
      split at hn
      · rename_i x px _ heq
        cases heq
        obtain ⟨hA, hB⟩ := and2 hn
        obtain ⟨hA, _⟩ := and2 hA
        split at hB
        · rename_i y py _ heq
          cases heq
          obtain ⟨hC, hB⟩ := and2 hB
          obtain ⟨hC, _⟩ := and2 hC
          split at hB
          · rename_i z pz _ heq
            cases heq
            obtain ⟨hE, _⟩ := and2 hB
            obtain ⟨hE, _⟩ := and2 hE
            have ni := of_decide_eq_true hA
            have nj := of_decide_eq_true hC
            have nl := of_decide_eq_true hE
            simp only [List.map_cons, List.map_nil, List.all_cons, List.all_nil, Bool.and_true] at h3 hns hnd
            obtain ⟨h4, h5⟩ := and2 h3
            obtain ⟨h5, h6⟩ := and2 h5
            have ei : X.N.getD i "" = x := by rw [List.getD_eq_getElem?_getD, ni]; rfl
            have ej : X.N.getD j "" = y := by rw [List.getD_eq_getElem?_getD, nj]; rfl
            have el : X.N.getD l "" = z := by rw [List.getD_eq_getElem?_getD, nl]; rfl
            rw [ei, ej, el] at hns
            rw [ei] at h4
            rw [ej] at h5
            rw [el] at h6
            subst hns
            have hij : i ≠ j := fun z => by subst z; simp at hnd
            have hil : i ≠ l := fun z => by subst z; simp at hnd
            have hjl : j ≠ l := fun z => by subst z; simp at hnd
            refine ⟨fun pins s0 σ H D' I hh => ?_⟩
            refine (ps_par3 C.calm C.nd ni nj nl hij hil hjl (by rw [hsc]; exact eq_of_beq h4) (by rw [hsc]; exact eq_of_beq h5) (by rw [hsc]; exact eq_of_beq h6) pm w1 (by rfl)).run pins s0 σ H D' I ?_
            obtain ⟨F, G, θ, s, tt, s', R, e, hp, k⟩ := rd hh
            refine ⟨F, G, θ, s, tt, s', R, e, hp, fun ws H' F' G' θ' ps R' l' lg p' mo hps => ?_⟩
            obtain ⟨q1, q2, q4, q3⟩ := k ws H' F' G' θ' ps R' l' lg p' mo hps
            obtain ⟨w1, w2, w3, rfl⟩ := len3 q1
            exact ⟨w1, w2, w3, rfl, q4⟩
          · cases hB
        · cases hB
      · cases hn
end
end Ev
/-! Soundness of statements: the checker, the theorem; defs and calls. -/
namespace Ev
open PySem PySem.Spec L2
open PyProof.Rows hiding St
mutual
def chkS (D : Ds) (N : List Str) (sc : Scope) : Sm → Stmt → Bool
  | .set i e, st => match st with
    | .Assign [.Name x px] v pos => decide (N[i]? = some x) && locB sc x && chk D N sc e v && (match v with
      | .ListComp _ _ scope p => !(sc.names.lookup x == some .local && px.line == p.line && !(scope.names.any fun (n, k) => n == x && (k == .local || k == .cell))) || sc.names.lookup x == some .local
      | v => !isCompE v)
    | _ => false
  | .own i es, st => match st with
    | .Assign [.Name x _] (.List xs _) _ => decide (N[i]? = some x) && locB sc x && chks D N sc es xs
    | _ => false
  | .ownOf i e, st => match st with
    | .Assign [.Name x _] (.Call (.Name y _) [z] [] _) _ => decide (N[i]? = some x) && locB sc x && blB D sc y "list" && !isStar z && chk D N sc e z
    | _ => false
  | .many is es, st => match st with
    | .Assign [.Tuple ts _ _] (.Tuple vs _ _) _ => decide (is.length ≤ sizeLine) && chkN N sc is ts && dispOk is es && chks D N sc es vs && (match swQ sc ts vs with
      | none => false
      | some none => true
      | some (some ns) => decide (ns = is.map fun p => N.getD p.1 "") && (is.map (·.1)).all (fun i => sc.names.lookup (N.getD i "") == some .local) && decide ((is.map (·.1)).Nodup))
    | _ => false
  | .tgt tg e, st => match st with
    | .Assign [t] v _ => chkT N sc tg t && isTp tg && chk D N sc e v && !isTupE v
    | _ => false
  | .aug i o e, st => match st with
    | .AugAssign (.Name x _) op v _ => decide (op = o.py) && decide (o.py = .Add ∨ o.py = .Sub) && decide (N[i]? = some x) && locB sc x && chk D N sc e v
    | _ => false
  | .put o k v, st => match st with
    | .Assign [.Subscript a b _] w _ => !isSlice b && chk D N sc o a && chk D N sc k b && chk D N sc v w
    | _ => false
  | .app i e, st => match st with
    | .Expr (.Call (.Attribute (.Name x _) m ap) [z] [] cp) _ => decide (m = ("append" : Str)) && decide (N[i]? = some x) && visB sc x && okN x && (ap.endLine == cp.line) && !isStar z && chk D N sc e z
    | _ => false
  | .ext i e, st => match st with
    | .Expr (.Call (.Attribute (.Name x _) m ap) [z] [] cp) _ => decide (m = ("extend" : Str)) && decide (N[i]? = some x) && visB sc x && okN x && (ap.endLine == cp.line) && !isStar z && chk D N sc e z
    | _ => false
  | .ex e, st => match st with
    | .Expr v _ => !isCompE v && chk D N sc e v
    | _ => false
  | .ret e, st => match st with
    | .Return (some v) _ => chk D N sc e v
    | _ => false
  | .retN, st => match st with
    | .Return none _ => true
    | _ => false
  | .ite c a b, st => match st with
    | .If t x y _ => chk D N sc c t && chkSs D N sc a x && chkSs D N sc b y
    | _ => false
  | .forr k tg its b, st => match st with
    | .For tge iter y [] _ => !isSetE iter && chkT N sc tg tge && chkIt D N sc k tg its iter && chkSs D N sc b y
    | _ => false
  | .whl c b, st => match st with
    | .While t y [] _ => chk D N sc c t && chkSs D N sc b y
    | _ => false
  | .brk, st => match st with
    | .Break _ => true
    | _ => false
  | .cont, st => match st with
    | .Continue _ => true
    | _ => false
  | .pass, st => match st with
    | .Pass _ => true
    | _ => false
  | .bad, _ => true
def chkSs (D : Ds) (N : List Str) (sc : Scope) : List Sm → List Stmt → Bool
  | [], ss => match ss with
    | [] => true
    | _ => false
  | a :: b, ss => match ss with
    | x :: y => chkS D N sc a x && chkSs D N sc b y
    | _ => false
end
section
variable {D : Ds} {gc : List Tr} {cf : CF} {wf : Nat} {X : Cx} {sc : Scope}
/-- an assignment of a comprehension -/
theorem sSetComp' (C : Cxt D gc cf X sc) (hsc : X.env.scope = sc) (hfun : sc.kind = .function) {i : Nat} {e : Ex} {x : Str} {px pos p : Pos} {elt : Expr} {gs : List Comprehension} {scope : Scope} (hN : X.N[i]? = some x) (hl : locB sc x = true) (he : chk D X.N sc e (.ListComp elt gs scope p) = true)
    (hx : (!(sc.names.lookup x == some .local && px.line == p.line && !(scope.names.any fun (n, k) => n == x && (k == .local || k == .cell))) || sc.names.lookup x == some .local) = true) : PS X (.Assign [.Name x px] (.ListComp elt gs scope p) pos) (RS gc cf wf X.K (.set i e)) := by
  have hsn := sX e X sc _ C he
  have hbk : X.env.blockKind = .function := by unfold Env.blockKind; rw [hsc, hfun]; rfl
  have hkd : ∀ y, X.env.kindOf y = sc.names.lookup y := fun y => by rw [← hsc]; rfl
  have hsw : swapsWith (.ListComp elt gs scope p) (some (.Name x px)) pos.line X.env = pure (sc.names.lookup x == some .local && px.line == p.line && !(scope.names.any fun (n, k) => n == x && (k == .local || k == .cell))) := by
    unfold swapsWith
    simp only [hbk, hkd, Expr.pos]
    rfl
  cases hb : (sc.names.lookup x == some .local && px.line == p.line && !(scope.names.any fun (n, k) => n == x && (k == .local || k == .cell))) with
  | false =>
    obtain ⟨h1, h2⟩ := C.loc x hl
    rw [hb] at hsw
    refine ⟨fun pins s0 σ H D' I hh => ?_⟩
    obtain ⟨F, G, θ, s, fl, s', R, ev, k⟩ := hh
    simp only [exS] at ev
    obtain ⟨t, s1, e1, ev⟩ := Rs.bind_eq ev
    split at ev
    · rename_i hc
      obtain ⟨h3, h4⟩ := and2 hc
      cases ev
      exact (ps_set C.nd hN h1 hsn.pe hsw h2).run pins s0 σ H D' I ⟨F, G, θ, s, t, s1, R, e1, fun v H1 F1 θ1 R1 l1 p1 r1 => k _ H1 F1 θ1 (R1.store (r1.rp h3) (of_decide_eq_true h4)) l1 p1⟩
    · cases ev
  | true =>
    rw [hb] at hsw
    have hloc : X.env.scope.names.lookup x = some .local := by
      rw [hsc]
      have := (and2 (and2 hb).1).1
      exact eq_of_beq this
    by_cases hbad : e = .bad
    · subst hbad
      exact ⟨fun pins s0 σ H D' I hh => by obtain ⟨F, G, θ, s, fl, s', R, ev, k⟩ := hh; simp only [exS, evX, Rs.bind] at ev; cases ev⟩
    cases e <;> try (first | exact absurd rfl hbad | (simp [chk] at he; done) | (simp only [chk] at he; split at he <;> cases he))
    rename_i k elt' tg its cond own
    simp only [chk] at he
    split at he
    · rename_i e' tg' iter ifs scope' pos' heq
      cases heq
      obtain ⟨h1, hit⟩ := and2 he
      obtain ⟨h1, hcond⟩ := and2 h1
      obtain ⟨h1, htg⟩ := and2 h1
      obtain ⟨h1, helt⟩ := and2 h1
      obtain ⟨h1, hblk⟩ := and2 h1
      obtain ⟨hset, hin⟩ := and2 h1
      have hI : PI X tg' iter (RI gc cf X.K k its) := sI C (fun e x he hx => by subst he; exact (sX e X sc x C hx).pe) (fun xs hxs => sEs its X sc xs C hxs) (.inr ⟨_, _, htg⟩) hit
      have hE : ∀ X' : Cx, Cxt D gc cf X' scope → X'.N = X.N → X'.K = X.K → Snd gc cf X' elt' elt := fun X' C' hN _ => sX elt' X' scope elt C' (by rw [hN]; exact helt)
      cases ifs with
      | nil =>
        obtain ⟨t, ht, hr⟩ := sSetComp (tt := tYes) C hI hblk (by simpa using hset) hin hE htg (fun _ _ _ _ => pts_nil) (fun {σ H Q F G θ s b s'} R e k => by
          rw [if_pos hcond] at e
          cases e
          exact k H F θ R (FLe.refl F) (List.prefix_refl _)) hN hloc hsw
        exact sSetC C ht hr
      | cons c r =>
        cases r with
        | cons _ _ => cases hcond
        | nil =>
          obtain ⟨h2, h3⟩ := and2 hcond
          obtain ⟨t, ht, hr⟩ := sSetComp (tt := RT gc cf X.K cond) C hI hblk (by simpa using hset) hin hE htg (fun X' C' hN hK => by
              have z := pts_one (sX cond X' scope c C' (by rw [hN]; exact h3)).pt
              rw [hK] at z
              exact z) (fun {σ H Q F G θ s b s'} R e k => by
            rw [if_neg (by simpa using h2)] at e
            exact ⟨F, G, θ, s, b, s', R, e, k⟩) hN hloc hsw
          exact sSetC C ht hr
    · cases he
mutual
theorem sS (C : Cxt D gc cf X sc) (hsc : X.env.scope = sc) (hfun : sc.kind = .function) : ∀ (a : Sm) (st : Stmt), chkS D X.N sc a st = true → PS X st (RS gc cf wf X.K a)
  | .set i e, st, h => by
    simp only [chkS] at h
    split at h
    · rename_i x px v pos
      obtain ⟨h1, h4⟩ := and2 h
      obtain ⟨h1, h3⟩ := and2 h1
      obtain ⟨h1, h2⟩ := and2 h1
      have hN := of_decide_eq_true h1
      cases v <;> first
        | exact sSetComp' C hsc hfun hN h2 h3 h4
        | exact sSet C hN h2 (sX e X sc _ C h3).pe (by simpa using h4)
    · cases h
  | .own i es, st, h => by
    simp only [chkS] at h
    split at h
    · obtain ⟨h1, h3⟩ := and2 h
      obtain ⟨h1, h2⟩ := and2 h1
      exact sOwn C (of_decide_eq_true h1) h2 (sEs es X sc _ C h3)
    · cases h
  | .ownOf i e, st, h => by
    simp only [chkS] at h
    split at h
    · obtain ⟨h1, h5⟩ := and2 h
      obtain ⟨h1, h4⟩ := and2 h1
      obtain ⟨h1, h3⟩ := and2 h1
      obtain ⟨h1, h2⟩ := and2 h1
      have hN := of_decide_eq_true h1
      obtain ⟨rfl, g1, m1⟩ := blB_ok C h3
      exact sOwnOf C hN h2 g1 m1 (sX e X sc _ C h5).pe (by simpa using h4)
    · cases h
  | .many is es, st, h => by
    simp only [chkS] at h
    split at h
    · obtain ⟨h1, h5⟩ := and2 h
      obtain ⟨h1, h4⟩ := and2 h1
      obtain ⟨h1, h3⟩ := and2 h1
      obtain ⟨h1, h2⟩ := and2 h1
      exact sMany C hsc hfun (of_decide_eq_true h1) h2 h3 h4 h5
    · cases h
  | .tgt tg e, st, h => by
    simp only [chkS] at h
    split at h
    · obtain ⟨h1, h4⟩ := and2 h
      obtain ⟨h1, h3⟩ := and2 h1
      obtain ⟨h1, h2⟩ := and2 h1
      exact sTgt C h1 h2 (sX e X sc _ C h3).pe (by simpa using h4)
    · cases h
  | .aug i o e, st, h => by
    simp only [chkS] at h
    split at h
    · obtain ⟨h1, h5⟩ := and2 h
      obtain ⟨h1, h4⟩ := and2 h1
      obtain ⟨h1, h3⟩ := and2 h1
      obtain ⟨h1, h2⟩ := and2 h1
      obtain rfl := of_decide_eq_true h1
      refine sAug C (of_decide_eq_true h3) h4 ?_ (sX e X sc _ C h5).pe
      cases o with
      | add => exact .inl rfl
      | sub => exact .inr rfl
      | _ => exact absurd (of_decide_eq_true h2) (by decide)
    · cases h
  | .put o k v, st, h => by
    simp only [chkS] at h
    split at h
    · obtain ⟨h1, h4⟩ := and2 h
      obtain ⟨h1, h3⟩ := and2 h1
      obtain ⟨h1, h2⟩ := and2 h1
      exact sPut C (by simpa using h1) (sX o X sc _ C h2).pe (sX k X sc _ C h3).pe (sX v X sc _ C h4).pe
    · cases h
  | .app i e, st, h => by
    simp only [chkS] at h
    split at h
    · obtain ⟨h1, h7⟩ := and2 h
      obtain ⟨h1, h6⟩ := and2 h1
      obtain ⟨h1, h5⟩ := and2 h1
      obtain ⟨h1, h4⟩ := and2 h1
      obtain ⟨h1, h3⟩ := and2 h1
      obtain ⟨h1, h2⟩ := and2 h1
      obtain rfl := of_decide_eq_true h1
      exact sApp (of_decide_eq_true h2) (C.vis _ h3) h4 h5 (by simpa using h6) (sX e X sc _ C h7).pe
    · cases h
  | .ext i e, st, h => by
    simp only [chkS] at h
    split at h
    · obtain ⟨h1, h7⟩ := and2 h
      obtain ⟨h1, h6⟩ := and2 h1
      obtain ⟨h1, h5⟩ := and2 h1
      obtain ⟨h1, h4⟩ := and2 h1
      obtain ⟨h1, h3⟩ := and2 h1
      obtain ⟨h1, h2⟩ := and2 h1
      obtain rfl := of_decide_eq_true h1
      exact sExt (of_decide_eq_true h2) (C.vis _ h3) h4 h5 (by simpa using h6) (sX e X sc _ C h7).pe
    · cases h
  | .ex e, st, h => by
    simp only [chkS] at h
    split at h
    · obtain ⟨h1, h2⟩ := and2 h
      exact sExp (by simpa using h1) (sX e X sc _ C h2).pe
    · cases h
  | .ret e, st, h => by
    simp only [chkS] at h
    split at h
    · exact sRet (sX e X sc _ C h).pe
    · cases h
  | .retN, st, h => by
    simp only [chkS] at h
    split at h
    · exact sRetN
    · cases h
  | .ite c a b, st, h => by
    simp only [chkS] at h
    split at h
    · obtain ⟨h1, h3⟩ := and2 h
      obtain ⟨h1, h2⟩ := and2 h1
      exact sIf (sX c X sc _ C h1).pt (sSs C hsc hfun a _ h2) (sSs C hsc hfun b _ h3)
    · cases h
  | .forr k tg its b, st, h => by
    simp only [chkS] at h
    split at h
    · obtain ⟨h1, h4⟩ := and2 h
      obtain ⟨h1, h3⟩ := and2 h1
      obtain ⟨h1, h2⟩ := and2 h1
      exact sFor C (by simpa using h1) h2 (sI C (fun e x he hx => by subst he; exact (sX e X sc x C hx).pe) (fun xs hxs => sEs its X sc xs C hxs) (.inl h2) h3) (sSs C hsc hfun b _ h4)
    · cases h
  | .whl c b, st, h => by
    simp only [chkS] at h
    split at h
    · obtain ⟨h1, h2⟩ := and2 h
      exact sWhile C (sX c X sc _ C h1).pt (sSs C hsc hfun b _ h2)
    · cases h
  | .brk, st, h => by
    simp only [chkS] at h
    split at h
    · exact sBrk
    · cases h
  | .cont, st, h => by
    simp only [chkS] at h
    split at h
    · exact sCont
    · cases h
  | .pass, st, h => by
    simp only [chkS] at h
    split at h
    · exact sPass
    · cases h
  | .bad, st, h => ⟨fun pins s0 σ H D' I hh => by obtain ⟨F, G, θ, s, fl, s', R, ev, k⟩ := hh; simp only [exS] at ev; cases ev⟩
theorem sSs (C : Cxt D gc cf X sc) (hsc : X.env.scope = sc) (hfun : sc.kind = .function) : ∀ (a : List Sm) (st : List Stmt), chkSs D X.N sc a st = true → PSs X st (RSs gc cf wf X.K a)
  | [], st, h => by
    cases st with
    | cons _ _ => exact nomatch h
    | nil => exact sNil
  | a :: b, st, h => by
    cases st with
    | nil => exact nomatch h
    | cons x y =>
      simp only [chkSs] at h
      obtain ⟨h1, h2⟩ := and2 h
      exact sCons (sS C hsc hfun a x h1) (sSs C hsc hfun b y h2)
end
end
end Ev
/-! Functions: every def of the text keeps the evaluator's promise. -/
namespace Ev
open PySem PySem.Spec L2
open PyProof.Rows hiding St
structure FnI where
  name : Str
  st : Stmt
  N : List Str
  P : List Str
structure FnS (D : Ds) (I : FnI) (fn : Fn) : Prop where
  scope : FnScope I.N I.P (defScope I.st)
  chk : chkSs D I.N (defScope I.st) fn.body (defBody I.st) = true
  par : I.P.length = fn.par
  loc : I.N.length = fn.loc
  bnd : ∀ (kV doc pm : Value) (an : Option Addr) (cdv ct : Value) (us ws : List Value), (us ++ ws).length = I.P.length →
    bindArgs (PySem.W.fnOf I.name I.name (defArgs I.st) (defBody I.st) (defScope I.st) .none kV doc pm an cdv ct) ⟨us, (I.P.drop us.length).zip ws⟩ = pure (I.P.zip (us ++ ws))
section
variable {P : Program} {w : World} {K : PySem.W.Frag} {mg : Str → Option Value} {base : Heap}
theorem FnS.kb {D : Ds} {I : FnI} {fn : Fn} (S : FnS D I fn) {fa : Addr} {fd : FuncData} (F : Fun K I.name I.name I.st fa fd) : KB K fd I.P := by
  obtain ⟨oc, od, kV, doc, pm, an, cdv, ct, osl, rfl, lk, hcd⟩ := F.ex
  intro s us ws _ hl
  exact BindsTo.of_eq (S.bnd kV doc pm an cdv ct us ws hl)
inductive AllS (D : Ds) : List FnI → List Fn → Prop
  | nil : AllS D [] []
  | cons {I : FnI} {fn : Fn} {is : List FnI} {fs : List Fn} : FnS D I fn → AllS D is fs → AllS D (I :: is) (fn :: fs)
theorem AllS.get {D : Ds} : ∀ {is : List FnI} {fs : List Fn}, AllS D is fs → ∀ (f : Nat) I fn, is[f]? = some I → fs[f]? = some fn → FnS D I fn
  | _, _, .nil, f, I, fn, h, _ => by simp at h
  | _, _, .cons a b, 0, I, fn, h, h' => by simp at h h'; subst h; subst h'; exact a
  | _, _, .cons a b, f + 1, I, fn, h, h' => b.get f I fn (by simpa using h) (by simpa using h')
structure Dyn (K : PySem.W.Frag) (mg : Str → Option Value) (is : List FnI) (D : Ds) (gc : List Tr) : Prop where
  fns : ∀ (f : Nat) I, is[f]? = some I → ∃ (fa : Addr) (fd : FuncData), mg I.name = some (.ref fa) ∧ Fun K I.name I.name I.st fa fd
  gl : ∀ (k : Nat) t x, gc[k]? = some t → D.gls[k]? = some x → ∃ v u, mg x = some u ∧ RelV v u ∧ Rp K (fun _ => none) [] t v
  blt : ∀ x ∈ D.blts, mg x = none
theorem Rel.begin {F G H : Hp} {θ : List Addr} {m : List Ob} {ts : List Tr} {vs : List V} {N : List Str} {n : Nat} (M : RelM K F G θ m H) (r : Rps K F θ ts vs) (hn : N.length = n) :
    Rel K F G θ ⟨ts.map Slot.val ++ List.replicate (n - ts.length) Slot.none, m⟩ (L2.start N vs) H := by
  have hl := r.length
  refine ⟨M, ?_, fun i x e => ?_, fun i j l l' a e1 => ?_⟩
  · unfold L2.start
    simp [hl, hn]
  · have e' : (ts.map Slot.val ++ List.replicate (n - ts.length) Slot.none)[i]? = some x := e
    by_cases hi : i < ts.length
    · rw [List.getElem?_append_left (by simpa using hi), List.getElem?_map] at e'
      cases e2 : ts[i]? with
      | none => rw [e2] at e'; cases e'
      | some t =>
        rw [e2] at e'
        cases e'
        obtain ⟨v, h1, h2⟩ := r.get e2
        refine ⟨v, ?_, h2⟩
        unfold L2.start
        rw [List.getElem?_append_left (by simp; omega), List.getElem?_map, h1]
        rfl
    · rw [List.getElem?_append_right (by simpa using hi), List.getElem?_replicate] at e'
      split at e'
      · cases e'; exact trivial
      · cases e'
  · have e' : (ts.map Slot.val ++ List.replicate (n - ts.length) Slot.none)[i]? = some (.own l) := e1
    by_cases hi : i < ts.length
    · rw [List.getElem?_append_left (by simpa using hi), List.getElem?_map] at e'
      cases e2 : ts[i]? with
      | none => rw [e2] at e'; cases e'
      | some t => rw [e2] at e'; cases e'
    · rw [List.getElem?_append_right (by simpa using hi), List.getElem?_replicate] at e'
      split at e' <;> cases e'
theorem funs {D : Ds} {gc : List Tr} {wf : Nat} {fs : List Fn} {is : List FnI} (hf : D.fns = is.map (·.name)) (hp : D.pars = is.map (·.P)) (S : ∀ (f : Nat) I fn, is[f]? = some I → fs[f]? = some fn → FnS D I fn) (hlen : is.length = fs.length) (dyn : Dyn K mg is D gc) :
    ∀ (d f : Nat) I fa fd, is[f]? = some I → Fun K I.name I.name I.st fa fd → FnG P w K mg base d fa fd I.P (SpE K (callF gc wf fs d) f I.P.length)
  | 0, f, I, fa, fd, hI, hF => ⟨fun vs H Q E h => h.1, fun A outer s H args us vs Q E _ _ _ _ _ h => by
      obtain ⟨_, F, G, θ, ts, m, t, m', _, _, e, _⟩ := h
      simp only [callF] at e
      cases e⟩
  | d + 1, f, I, fa, fd, hI, hF => by
    have hfl : f < fs.length := by rw [← hlen]; exact (List.getElem?_eq_some_iff.mp hI).1
    have hfn : fs[f]? = some (fs[f]'hfl) := by simp
    have hS := S f I _ hI hfn
    refine fnG hF hS.scope (fun vs H Q E h => h.1) fun cdv A outer s H vs Q E hr hgd hsp => ?_
    have C : Cxt D gc (callF gc wf fs d) (cxOf CX0 P w K mg base I.N I.name (defScope I.st) fa cdv A outer s H E).nox (defScope I.st) := by
      refine ⟨hS.scope.nd, rfl, hgd, rfl, fun x h => visB_ok h, fun x h => ⟨locB_ok h, .inl rfl⟩, fun x h => ?_, fun sc own h => blkOk_by h, dyn.gl, dyn.blt, ?_, fun g x hg ts m r hr' => ?_⟩
      · unfold glB at h
        split at h
        · assumption
        · cases h
      · have := hr.un
        show (A.deeper (envOfC I.name (defScope I.st) s.heap.objs.size fa cdv)).units + 200 < cLine
        omega
      · rw [hf, List.getElem?_map] at hg
        cases e : is[g]? with
        | none => rw [e] at hg; cases hg
        | some J =>
          rw [e] at hg
          cases hg
          obtain ⟨ga, gd, h1, h2⟩ := dyn.fns g J e
          have hgl : g < fs.length := by rw [← hlen]; exact (List.getElem?_eq_some_iff.mp e).1
          have hgn : fs[g]? = some (fs[g]'hgl) := by simp
          have hSg := S g J _ e hgn
          refine ⟨ga, gd, J.P, d, ?_, h1, h2.kp, hSg.kb h2, hr, funs hf hp S hlen dyn d g J ga gd e h2, ?_⟩
          · rw [hp, List.getElem?_map, e]; rfl
          · cases d with
            | zero => simp only [callF] at hr'; cases hr'
            | succ d =>
              simp only [callF, hgn] at hr'
              split at hr'
              · rename_i hh; rw [hh, hSg.par]
              · cases hr'
    refine ⟨_, sSs (wf := wf) C rfl hS.scope.kind _ _ hS.chk, ?_⟩
    obtain ⟨hl, F, G, θ, ts, m, t, m', M, rr, ev, k⟩ := hsp
    simp only [callF, hfn] at ev
    split at ev
    · split at ev
      · rename_i s' e
        cases ev
        refine ⟨F, G, θ, _, .next, s', Rel.begin M rr hS.loc, e, fun σ' H' F' θ' R l p => ?_⟩
        exact k .non H' F' θ' R.m l p .non
      · rename_i t' s' e
        cases ev
        refine ⟨F, G, θ, _, .ret t, s', Rel.begin M rr hS.loc, e, fun v σ' H' F' θ' R l p r => ?_⟩
        exact k v H' F' θ' R.m l p r
      · cases ev
    · cases ev
/-- what is asked of a law at its script -/
theorem spe_law {cf : CF} {f : Nat} {H : Hp} {a : Addr} {ns : List Int} {m' : List Ob} {E : XK} (h : SqL K H a (ns.map V.int)) (e : cf f [.flst (ns.map .int)] [] = some (.bl true, m')) :
    SpE K cf f 1 [.ref a] H (fun v _ => v = .bl true) E := by
  have intsR : ∀ (ns : List Int), Rps K H [] (ns.map Tr.int) (ns.map V.int) := by
    intro ns
    induction ns with
    | nil => exact .nil
    | cons n ns ih => exact .cons (.int n) ih
  refine ⟨rfl, H, fun _ => none, [], _, [], _, m', ⟨FLe.refl H, fun a o z => (nomatch z), fun a o z => (nomatch z), rfl, List.nodup_nil, fun n o z => ?_⟩, .cons (.flst h (intsR ns)) .nil, e, fun v H' F' θ' _ _ _ r => ?_⟩
  · simp at z
  · cases r; rfl
end
/-- THE HEAD, where no repr is under way -/
theorem law_callG {P : Program} {w : World} {K : PySem.W.Frag} {mg mb : Str → Option Value} {k : Nat} {fa a : Addr} {fd : FuncData} {x : Str} {sp : Sp} {s₁ : Shared} {vs : List Value} {ns : List Int}
    (KX : K.In s₁.heap) (hns : s₁.heap.Ns mainGlobals mg) (hb : s₁.heap.Ns builtinsNs mb) (hbb : ∀ x : Str, x ≠ "__name__" → mb x = bootBuiltins x) (hlim : s₁.heap.NoLimit) (hg : s₁.gens = #[])
    (ha : s₁.heap.get? a = some { cls := .type "list", data := .seq vs.toArray }) (hi : IntsAre vs ns) (hl : ns.length ≤ sizeLine) (hr : Room k callerA)
    (F : ∀ base : Heap, K.In base → base.Ns mainGlobals mg → FnG P w K mg base k fa fd [x] sp) (hbind : ∀ (s : Shared) (u : Value), BindsTo s fd ⟨[u], []⟩ [(x, u)])
    (hsp : ∀ H : Hp, Only H → SqL K H a (ns.map V.int) → sp [.ref a] H (fun v _ => v = .bl true) fun _ _ _ => False) :
    codeAny (model P w) callerA (.call (.ref fa) ⟨[.ref a], []⟩) (fun r s' => r = .ok (.ret (.bool true)) ∧ OldK s₁.heap s'.heap ∧ s'.os = s₁.os ∧ AllBare s'.gens) s₁ := by
  have rv := vals_ints hi
  have lenV := hi.length
  have core : ∀ H : Hp, Only H → SqL K H a (ns.map V.int) → HOk P w H s₁.heap → (∀ b, H b ≠ none → b = a) → (H a ≠ none → K.lookup a = none) →
      codeAny (model P w) callerA (.call (.ref fa) ⟨[.ref a], []⟩) (fun r s' => r = .ok (.ret (.bool true)) ∧ OldK s₁.heap s'.heap ∧ s'.os = s₁.os ∧ AllBare s'.gens) s₁ := by
    intro H hO hS hok hA hK
    have base_of : ∀ {b : Addr} {o : Obj}, s₁.heap.get? b = some o → H b = none → (hidT s₁.heap H).get? b = some o := fun e n => hidT_get e n
    have noA : ∀ {b : Addr} {o : Obj} {es : Array DictEntry} {ep : Nat}, s₁.heap.get? b = some o → o.data = .dict es ep → H b = none := fun {b o es ep} e d => by
      cases q : H b with
      | none => rfl
      | some u =>
        have e' : b = a := hA b (by rw [q]; simp)
        subst e'
        rw [ha] at e; cases e
        have d' : Data.seq vs.toArray _ = Data.dict es ep := d
        cases d'
    have nsK : ∀ {b : Addr} {m : Str → Option Value}, s₁.heap.Ns b m → (hidT s₁.heap H).Ns b m := fun {b m} ⟨o, es, ep, e, d, r⟩ => ⟨o, es, ep, base_of e (noA e d), d, r⟩
    have hKb : K.In (hidT s₁.heap H) := fun b o e => base_of (KX b o e) (by
      cases q : H b with
      | none => rfl
      | some u =>
        have e' : b = a := hA b (by rw [q]; simp)
        subst e'
        rw [hK (by rw [q]; simp)] at e; cases e)
    have hM : Mod K mg (hidT s₁.heap H) := ⟨hKb, nsK hns, ⟨mb, nsK hb, hbb⟩, let ⟨mc, h1, h2⟩ := hlim; ⟨mc, nsK h1, h2⟩⟩
    have e0 : Env0 P w K mg (hidT s₁.heap H) callerA [] s₁ H := ⟨rfl, hM, fun b o e => of_hidT e, Nat.le_of_eq (hidT_size _ _), trivial, fun b hb => absurd (show b ∈ ([] : List Addr) from hb) (by simp), hok, .of_eq hg⟩
    refine codeAny_mono ((F _ hKb (nsK hns)).run callerA [] s₁ H ⟨[.ref a], []⟩ [.ref a] [.ref a] _ _ hr rfl e0 (hbind s₁ (.ref a)) (.cons rfl .nil) (hsp H hO hS)) fun r s' h => ?_
    cases r with
    | error e => exact False.elim h
    | ok fl =>
      cases fl with
      | next => exact False.elim h
      | brk => exact False.elim h
      | cont => exact False.elim h
      | ret u =>
        obtain ⟨v, H', os, bare, un, hok', r', q⟩ := h
        have q' : v = .bl true := q
        subst q'
        obtain rfl : u = Value.bool true := r'
        refine ⟨rfl, OldK.of_keep fun b o e => ?_, os, bare⟩
        cases q : H b with
        | none => exact un.keep b o e q (by intro z; exact absurd (show b ∈ ([] : List Addr) from z) (by simp)) (by simp)
        | some u =>
          rcases hO b with z | ⟨ob, xs, z⟩
          · rw [q] at z; cases z
          · have z2 := un.frzs b ob _ z
            obtain ⟨e1, _⟩ := hok b _ z
            obtain ⟨e2, _⟩ := hok' b _ z2
            rw [e] at e1; cases e1
            exact e2
  cases hk : K.lookup a with
  | some o =>
    have e := KX a o hk
    rw [ha] at e
    cases e
    refine core (fun _ => none) (fun _ => .inl rfl) (.inr ⟨_, vs.toArray, _, hk, rfl, rfl, rfl, by rw [List.size_toArray, lenV]; exact hl, by simpa using rv⟩) (fun b u z => by have z' : (none : Option HO) = some u := z; cases z') (fun b z => absurd rfl z) fun z => absurd rfl z
  | none =>
    refine core (fun b => if b = a then some (.frz { cls := .type "list", data := .seq vs.toArray } (.lst (ns.map V.int))) else none) (fun b => ?_) (.inl (.inr ⟨{ cls := .type "list", data := .seq vs.toArray }, if_pos rfl⟩)) (fun b u z => ?_) (fun b z => ?_) fun _ => hk
    · by_cases hb : b = a
      · exact .inr ⟨_, _, if_pos hb⟩
      · exact .inl (if_neg hb)
    · by_cases hb : b = a
      · have z' := (if_pos hb).symm.trans z
        cases z'
        subst hb
        exact ⟨ha, by rw [List.length_map]; exact hl, vs, _, rv, ha⟩
      · have z' := (if_neg hb).symm.trans z
        cases z'
    · by_cases hb : b = a
      · exact hb
      · exact absurd (if_neg hb) z
/-- the goal that k_head leaves (case hc) -/
theorem walk_G {l : PySem.W.OpenLaw} {n d0 wf li : Nat} {q : Program} {loose : List Str} {XP : (Str → Option Value) → Heap → Prop} {YP : World → Heap → Prop} {d : DefRec} {K : Params → PySem.W.Frag} {x : Str} {D : Ds} {gc : List Tr} {fs : List Fn} {is : List FnI} {I : FnI}
    (hn : l.most = some n) (hn2 : n ≤ sizeLine) (hdf : d.params.defaults = []) (hr : Room d0 callerA)
    (hY : ∀ (w : World) (h : Heap), YP w h → (K w.params).In h)
    (hf : D.fns = is.map (·.name)) (hp : D.pars = is.map (·.P)) (S : ∀ (f : Nat) I fn, is[f]? = some I → fs[f]? = some fn → FnS D I fn) (hlen : is.length = fs.length)
    (hI : is[li]? = some I) (hnm : d.name = I.name) (hP : I.P = [x])
    (dyn : ∀ (w : World) (mg : Str → Option Value) (h : Heap), (K w.params).In h → h.Ns mainGlobals mg → Dyn (K w.params) mg is D gc)
    (hlaw : ∀ ns : List Int, ns.length ≤ n → ∃ m', callF gc wf fs d0 li [.flst (ns.map .int)] [] = some (.bl true, m')) :
    PySem.W.WalkO q loose XP YP l.row.toRowW d [] (fun f vs => PySem.call f vs) := by
  refine Att.attach_call hn hdf fun w s₀ s₁ mg mb fa o pm cd doc a vs ns G Y ho hd hcd hmg hobj hints hlen' hg => ?_
  have KX := hY w _ Y
  have dy := dyn w mg _ KX G.T.g
  obtain ⟨fa', fd, h1, h2⟩ := dy.fns li I hI
  rw [← hnm, hmg] at h1
  cases h1
  have hil : li < fs.length := by rw [← hlen]; exact (List.getElem?_eq_some_iff.mp hI).1
  have hSl := S li I _ hI (show fs[li]? = some (fs[li]'hil) by simp)
  obtain ⟨m', e⟩ := hlaw ns hlen'
  have hkb := hSl.kb h2
  refine law_callG (fd := fd) (x := x) KX G.T.g G.T.b G.T.builtins G.T.nolimit hg hobj hints (Nat.le_trans hlen' hn2) hr (fun base hb hns => ?_) (fun s u => ?_) (fun H hO hS => spe_law (f := li) hS e)
  · have z := funs (P := l.prog) (w := w) (base := base) (wf := wf) hf hp S hlen dy d0 li I fa fd hI h2
    rw [hP] at z
    exact z
  · obtain ⟨oc, od, kV, doc', pm', an, cdv, ct, osl, rfl, lk, hcd⟩ := h2.ex
    have z := BindsTo.of_eq (s := s) (hSl.bnd kV doc' pm' an cdv ct [u] [] (by rw [hP]; rfl))
    rw [hP] at z
    exact z
end Ev
/-! What the top has written: constants, functions. -/
namespace Ev
open PySem PySem.Spec L2
open PyProof.Rows hiding St
mutual
def okV (K : PySem.W.Frag) : Tr → Value → Bool
  | .non, u => match u with
    | .none => true
    | _ => false
  | .bl b, u => match u with
    | .bool c => b == c
    | _ => false
  | .int i, u => match u with
    | .int j _ => decide (i = j)
    | _ => false
  | .str z, u => match u with
    | .str y _ => decide (z = y)
    | _ => false
  | .tup l, u => match u with
    | .ref a => (match K.lookup a with
      | some ⟨.type c, _, .seq its _, _⟩ => decide (c = "tuple") && decide (its.size ≤ sizeLine) && okVs K l its.toList
      | _ => false)
    | _ => false
  | _, _ => false
def okVs (K : PySem.W.Frag) : List Tr → List Value → Bool
  | [], us => match us with
    | [] => true
    | _ => false
  | t :: l, us => match us with
    | u :: us => okV K t u && okVs K l us
    | _ => false
end
mutual
theorem okV_ok {K : PySem.W.Frag} {F : Hp} {θ : List Addr} : ∀ (t : Tr) (u : Value), okV K t u = true → ∃ v, RelV v u ∧ Rp K F θ t v
  | .non, u, h => by
    simp only [okV] at h
    split at h
    · exact ⟨.non, rfl, .non⟩
    · cases h
  | .bl b, u, h => by
    simp only [okV] at h
    split at h
    · obtain rfl := eq_of_beq h
      exact ⟨.bl b, rfl, .bl b⟩
    · cases h
  | .int i, u, h => by
    simp only [okV] at h
    split at h
    · obtain rfl := of_decide_eq_true h
      exact ⟨.int i, ⟨_, rfl⟩, .int i⟩
    · cases h
  | .str z, u, h => by
    simp only [okV] at h
    split at h
    · obtain rfl := of_decide_eq_true h
      exact ⟨.str z, ⟨_, rfl⟩, .str z⟩
    · cases h
  | .tup l, u, h => by
    simp only [okV] at h
    split at h
    · split at h
      · rename_i a x0 c d its n sl e
        obtain ⟨h1, h2⟩ := and2 h
        obtain ⟨h1, h3⟩ := and2 h1
        obtain rfl := of_decide_eq_true h1
        obtain ⟨vs, q1, q2⟩ := okVs_ok (F := F) (θ := θ) l its.toList h2
        exact ⟨.ref a, rfl, .tup (.inr ⟨_, its, n, e, rfl, rfl, of_decide_eq_true h3, q1⟩) q2⟩
      · cases h
    · cases h
  | .lst l, u, h => by simp only [okV] at h; cases h
  | .flst l, u, h => by simp only [okV] at h; cases h
  | .ob n, u, h => by simp only [okV] at h; cases h
  | .bor n, u, h => by simp only [okV] at h; cases h
theorem okVs_ok {K : PySem.W.Frag} {F : Hp} {θ : List Addr} : ∀ (l : List Tr) (us : List Value), okVs K l us = true → ∃ vs, Vals vs us ∧ Rps K F θ l vs
  | [], us, h => by
    simp only [okVs] at h
    split at h
    · exact ⟨[], .nil, .nil⟩
    · cases h
  | t :: l, us, h => by
    cases us with
    | nil => simp only [okVs] at h; cases h
    | cons u us =>
      simp only [okVs] at h
      obtain ⟨h1, h2⟩ := and2 h
      obtain ⟨v, q1, q2⟩ := okV_ok (F := F) (θ := θ) t u h1
      obtain ⟨vs, q3, q4⟩ := okVs_ok (F := F) (θ := θ) l us h2
      exact ⟨v :: vs, .cons q1 q3, .cons q2 q4⟩
end
/-- a def as the top has written it -/
structure FK (K : PySem.W.Frag) (I : FnI) : Prop where
  ex : ∃ (f : Addr) (fd : FuncData), PySem.W.nsIn K mainGlobals I.name = some (some (.ref f)) ∧ Fun K I.name I.name I.st f fd
theorem fk {K : PySem.W.Frag} {I : FnI} {f : Addr} {oc : Value} {od an : Option Addr} {osl : Array (Option Value)} {kV doc pm cdv ct : Value} {x : Str} {st : Stmt} (e : I.name = x) (e2 : I.st = st) (a : PySem.W.nsIn K mainGlobals x = some (some (.ref f)))
    (l : K.lookup f = some ⟨oc, od, .func (PySem.W.fnOf x x (defArgs st) (defBody st) (defScope st) .none kV doc pm an cdv ct), osl⟩) (c : PySem.W.codeIn K cdv x = true) (k : PySem.W.keepIn K (.ref f) = true) : FK K I := by
  subst e e2
  exact ⟨f, _, a, fun_mk l c k⟩
inductive AllF (K : PySem.W.Frag) : List FnI → Prop
  | nil : AllF K []
  | cons {I : FnI} {is : List FnI} : FK K I → AllF K is → AllF K (I :: is)
theorem AllF.get {K : PySem.W.Frag} : ∀ {is : List FnI}, AllF K is → ∀ (f : Nat) I, is[f]? = some I → FK K I
  | _, .nil, f, I, h => by simp at h
  | _, .cons a b, 0, I, h => by simp at h; subst h; exact a
  | _, .cons a b, f + 1, I, h => b.get f I (by simpa using h)
inductive AllC (K : PySem.W.Frag) : List Tr → List Str → Prop
  | nil : AllC K [] []
  | cons {t : Tr} {x : Str} {ts : List Tr} {xs : List Str} {u : Value} : PySem.W.nsIn K mainGlobals x = some (some u) → okV K t u = true → AllC K ts xs → AllC K (t :: ts) (x :: xs)
theorem AllC.get {K : PySem.W.Frag} : ∀ {ts : List Tr} {xs : List Str}, AllC K ts xs → ∀ (k : Nat) t x, ts[k]? = some t → xs[k]? = some x → ∃ u, PySem.W.nsIn K mainGlobals x = some (some u) ∧ okV K t u = true
  | _, _, .nil, k, t, x, h, _ => by simp at h
  | _, _, .cons a b c, 0, t, x, h, h' => by simp at h h'; subst h h'; exact ⟨_, a, b⟩
  | _, _, .cons a b c, k + 1, t, x, h, h' => c.get k t x (by simpa using h) (by simpa using h')
inductive AllB (K : PySem.W.Frag) : List Str → Prop
  | nil : AllB K []
  | cons {x : Str} {xs : List Str} : PySem.W.nsIn K mainGlobals x = some none → AllB K xs → AllB K (x :: xs)
theorem AllB.get {K : PySem.W.Frag} : ∀ {xs : List Str}, AllB K xs → ∀ x ∈ xs, PySem.W.nsIn K mainGlobals x = some none
  | _, .nil, x, h => by cases h
  | _, .cons a b, x, h => by
    rcases List.mem_cons.mp h with rfl | h
    · exact a
    · exact b.get x h
theorem dyn_mk {K : PySem.W.Frag} {mg : Str → Option Value} {h : Heap} {is : List FnI} {D : Ds} {gc : List Tr} (X : K.In h) (G : h.Ns mainGlobals mg) (hf : AllF K is) (hc : AllC K gc D.gls) (hb : AllB K D.blts) : Dyn K mg is D gc := by
  refine ⟨fun f I e => ?_, fun k t x e1 e2 => ?_, fun x hx => PySem.W.mg_none_of X G (hb.get x hx)⟩
  · obtain ⟨fa, fd, q1, q2⟩ := (hf.get f I e).ex
    exact ⟨fa, fd, PySem.W.mg_of X G q1, q2⟩
  · obtain ⟨u, q1, q2⟩ := hc.get k t x e1 e2
    obtain ⟨v, r1, r2⟩ := okV_ok (F := fun _ => none) (θ := []) t u q2
    exact ⟨v, u, PySem.W.mg_of X G q1, r1, r2⟩
end Ev
/-! Plain facts of the evaluator. -/
namespace Ev
open PySem L2
def done : Rs Fl → Option (Tr × List Ob)
  | .ok .next s => some (.non, s.mem)
  | .ok (.ret t) s => some (t, s.mem)
  | _ => none
theorem callS {gc : List Tr} {wf : Nat} {fs : List Fn} {d f : Nat} {fn : Fn} {ts : List Tr} {m : List Ob} (h : fs[f]? = some fn) (hl : ts.length = fn.par) :
    callF gc wf fs (d + 1) f ts m = done (exSs gc (callF gc wf fs d) wf fn.body ⟨ts.map Slot.val ++ List.replicate (fn.loc - ts.length) Slot.none, m⟩) := by
  simp only [callF, h, hl, if_true]
  generalize exSs gc (callF gc wf fs d) wf fn.body ⟨ts.map Slot.val ++ List.replicate (fn.loc - fn.par) Slot.none, m⟩ = r
  cases r with
  | no => rfl
  | ok a s => cases a <;> rfl
theorem Rs.of_some {α : Type} {a : α} {s : Sta} : Rs.of (some a) s = .ok a s := rfl
theorem compGo_map {f : Tr → List Ob → Option (Option Tr × List Ob)} {g : Tr → Option Tr} {m : List Ob} : ∀ {xs acc : List Tr}, (∀ x ∈ xs, f x m = some (g x, m)) → acc.length + xs.length ≤ sizeLine → compGo f xs m acc = some (acc ++ xs.filterMap g, m)
  | [], acc, _, _ => by simp [compGo]
  | x :: xs, acc, h, hl => by
    rw [List.length_cons] at hl
    have h1 := h x (by simp)
    have h2 : ∀ y ∈ xs, f y m = some (g y, m) := fun y hy => h y (by simp [hy])
    simp only [compGo, h1]
    cases e : g x with
    | none =>
      dsimp only
      rw [compGo_map h2 (by omega)]
      simp [e]
    | some y =>
      dsimp only
      rw [if_pos (by omega), compGo_map h2 (by simp; omega)]
      simp [e]
theorem boolsT : ∀ (n : Nat), boolsOf (List.replicate n (Tr.bl true)) = some (List.replicate n true)
  | 0 => rfl
  | n + 1 => by
    rw [List.replicate_succ, List.replicate_succ]
    simp only [boolsOf, boolsT n]
theorem fm_rep {g : Tr → Option Tr} {t : Tr} : ∀ {xs : List Tr}, (∀ x ∈ xs, g x = some t) → xs.filterMap g = List.replicate xs.length t
  | [], _ => rfl
  | x :: xs, h => by
    rw [List.filterMap_cons, h x (by simp), fm_rep fun y hy => h y (by simp [hy])]
    rfl
theorem allT (n : Nat) : biT .all [.lst (List.replicate n (.bl true))] = some (.bl true) := by
  simp only [biT, boolsT, Option.map_some]
  congr 2
  induction n with
  | zero => rfl
  | succ n ih => rw [List.replicate_succ, List.all_cons, ih]; rfl
/-- a comprehension of Trues -/
theorem comp_true {f : Tr → List Ob → Option (Option Tr × List Ob)} {m : List Ob} {xs : List Tr} (h : ∀ x ∈ xs, f x m = some (some (.bl true), m)) (hl : xs.length ≤ sizeLine) : compGo f xs m [] = some (List.replicate xs.length (.bl true), m) := by
  rw [compGo_map (g := fun _ => some (.bl true)) h (by simpa using hl), fm_rep (t := .bl true) (fun _ _ => rfl)]
  rfl
/-! ### what can be compared -/
mutual
def gd : Nat → Tr → Bool
  | _, .int _ => true
  | _, .str z => PyData.strOk z
  | 0, _ => false
  | n + 1, .tup l => gds n l
  | n + 1, .lst l => gds n l
  | _, _ => false
def gds : Nat → List Tr → Bool
  | _, [] => true
  | n, t :: l => gd n t && gds n l
end
mutual
theorem gd_data : ∀ (n : Nat) (t : Tr), gd n t = true → ∃ d, t.data = some d ∧ d.canLay0 = true ∧ d.depth ≤ n
  | n, .int i, h => ⟨.int i, by simp only [Tr.data], by simp only [PyData.canLay0], by simp [PyData.depth]⟩
  | n, .str z, h => ⟨.str z, by simp only [Tr.data], by cases n <;> simpa only [PyData.canLay0, gd] using h, by simp [PyData.depth]⟩
  | 0, .tup l, h => by simp [gd] at h
  | 0, .lst l, h => by simp [gd] at h
  | n + 1, .tup l, h => by
    simp only [gd] at h
    obtain ⟨ds, h1, h2, h3⟩ := gds_data n l h
    exact ⟨.tuple ds, by simp only [Tr.data, h1], by simpa only [PyData.canLay0] using h2, by simp only [PyData.depth]; omega⟩
  | n + 1, .lst l, h => by
    simp only [gd] at h
    obtain ⟨ds, h1, h2, h3⟩ := gds_data n l h
    exact ⟨.list ds, by simp only [Tr.data, h1], by simpa only [PyData.canLay0] using h2, by simp only [PyData.depth]; omega⟩
  | n, .non, h => by cases n <;> simp [gd] at h
  | n, .bl b, h => by cases n <;> simp [gd] at h
  | n, .flst l, h => by cases n <;> simp [gd] at h
  | n, .ob b, h => by cases n <;> simp [gd] at h
  | n, .bor b, h => by cases n <;> simp [gd] at h
theorem gds_data : ∀ (n : Nat) (l : List Tr), gds n l = true → ∃ ds, datas l = some ds ∧ PyData.canLayAll0 ds = true ∧ PyData.depthAll ds ≤ n
  | n, [], h => ⟨[], by simp only [datas], by simp only [PyData.canLayAll0], by simp [PyData.depthAll]⟩
  | n, t :: l, h => by
    simp only [gds, Bool.and_eq_true] at h
    obtain ⟨d, h1, h2, h3⟩ := gd_data n t h.1
    obtain ⟨ds, h4, h5, h6⟩ := gds_data n l h.2
    exact ⟨d :: ds, by simp only [datas, h1, h4], by simp only [PyData.canLayAll0, h2, h5]; rfl, by simp only [PyData.depthAll]; omega⟩
end
theorem gds_iff {n : Nat} : ∀ {l : List Tr}, gds n l = true ↔ ∀ t ∈ l, gd n t = true
  | [] => by simp [gds]
  | t :: l => by simp only [gds, Bool.and_eq_true, gds_iff (l := l)]; simp
theorem shaped_of {n : Nat} {d : PyData} (h1 : d.canLay0 = true) (h2 : d.depth ≤ n) (h : n ≤ 64) : SeqAt.shaped d = true := by
  unfold SeqAt.shaped
  rw [h1]
  simp
  omega
theorem eqD_nil {n : Nat} {l : List Tr} (h : gds n l = true) (hn : n < 64) : eqT (.lst l) (.lst []) = some l.isEmpty := by
  obtain ⟨ds, h1, h2, h3⟩ := gds_data n l h
  have s1 : SeqAt.shaped (.list ds) = true := shaped_of (n := n + 1) (by simpa only [PyData.canLay0] using h2) (by simp only [PyData.depth]; omega) (by omega)
  have s2 : SeqAt.shaped (.list []) = true := by decide
  have e : PyData.eqv (.list ds) (.list []) = l.isEmpty := by
    cases l with
    | nil => simp only [datas] at h1; cases h1; rfl
    | cons t l =>
      simp only [datas] at h1
      split at h1
      · cases h1; rfl
      · cases h1
  show eqD _ _ = _
  unfold eqD
  simp only [Tr.data, h1, datas, s1, s2, e]
  rfl
theorem eqT_pair (a b c d : Int) : eqT (.tup [.int a, .int b]) (.tup [.int c, .int d]) = some (decide ((a, b) = (c, d))) := by
  simp [eqT, eqD, Tr.data, datas, SeqAt.shaped, PyData.canLay0, PyData.canLayAll0, PyData.depth, PyData.depthAll, PyData.eqv, PyData.eqvAll]
  rw [Bool.eq_iff_iff]
  simp
/-! ### operators at numbers -/
def Lil (i : Int) : Prop := i.natAbs.log2 < 400000
theorem log2_le_of {a k : Nat} (hk : 0 < k) (h : a < 2 ^ k) : a.log2 < k := by
  by_cases z : a = 0
  · subst z; simpa using hk
  · exact (Nat.log2_lt z).mpr h
theorem Lil.of {i : Int} (k : Nat) (hk : 0 < k) (hk2 : k ≤ 400000) (h : i.natAbs < 2 ^ k) : Lil i := Nat.lt_of_lt_of_le (log2_le_of hk h) hk2
theorem Lil.of64 {i : Int} (h1 : -9223372036854775808 < i) (h2 : i < 9223372036854775808) : Lil i := Lil.of 63 (by omega) (by omega) (by omega)
theorem opB_add (i j : Int) : opB .add (.int i) (.int j) = some (.int (i + j)) := rfl
theorem opB_sub (i j : Int) : opB .sub (.int i) (.int j) = some (.int (i - j)) := rfl
theorem opB_mul {i j : Int} (hi : Lil i) (hj : Lil j) : opB .mul (.int i) (.int j) = some (.int (i * j)) := by
  simp only [opB]
  exact if_pos (by unfold Lil at hi hj; omega)
theorem opB_mod {i j : Int} (h : 0 < j) : opB .mod (.int i) (.int j) = some (.int (i % j)) := by
  simp only [opB]
  exact if_pos h
theorem opB_fdiv {i j : Int} (h : 0 < j) (h2 : j < 1152921504606846976) : opB .fdiv (.int i) (.int j) = some (.int (i / j)) := by
  simp only [opB]
  exact if_pos ⟨h, Nat.lt_trans (log2_le_of (k := 60) (by omega) (by omega)) (by omega)⟩
theorem opB_pow {i j : Int} (h : 0 ≤ j) (h2 : (Builtin.Int.intBits i : Int) * j ≤ 2 ^ 27) : opB .pow (.int i) (.int j) = some (.int (i ^ j.toNat)) := by
  simp only [opB]
  exact if_pos ⟨h, h2⟩
theorem opB_cube {i : Int} (h1 : -9223372036854775808 < i) (h2 : i < 1267650600228229401496703205376) : opB .pow (.int i) (.int 3) = some (.int (i ^ 3)) := by
  refine opB_pow (by omega) ?_
  have : Builtin.Int.intBits i ≤ 101 := by
    unfold Builtin.Int.intBits
    split
    · omega
    · have := log2_le_of (a := i.natAbs) (k := 100) (by omega) (by omega)
      omega
  omega
theorem opB_addS {a b : Str} (h : a.length + b.length ≤ sizeLine) : opB .add (.str a) (.str b) = some (.str (a ++ b)) := by
  simp only [opB]
  exact if_pos h
theorem opB_addT {a b : List Tr} (h : a.length + b.length ≤ sizeLine) : opB .add (.tup a) (.tup b) = some (.tup (a ++ b)) := by
  simp only [opB]
  exact if_pos h
theorem opB_addL {a b : List Tr} (h : a.length + b.length ≤ sizeLine) : opB .add (.lst a) (.lst b) = some (.lst (a ++ b)) := by
  simp only [opB]
  exact if_pos h
theorem opC2_of {o : Cp} {x y : Tr} (h1 : x.pure = true) (h2 : y.pure = true) : opC2 o x y = opC o x y := by
  unfold opC2
  rw [h1, h2]
  rfl
theorem opC2_lt (i j : Int) : opC2 .lt (.int i) (.int j) = some (decide (i < j)) := rfl
theorem opC2_le (i j : Int) : opC2 .le (.int i) (.int j) = some (decide (i ≤ j)) := rfl
theorem opC2_gt (i j : Int) : opC2 .gt (.int i) (.int j) = some (decide (j < i)) := rfl
theorem opC2_ge (i j : Int) : opC2 .ge (.int i) (.int j) = some (decide (j ≤ i)) := rfl
theorem opC2_eqI (i j : Int) : opC2 .eq (.int i) (.int j) = some (decide (i = j)) := rfl
theorem opC2_neI (i j : Int) : opC2 .ne (.int i) (.int j) = some (!decide (i = j)) := rfl
theorem opC2_eqS (i j : Str) : opC2 .eq (.str i) (.str j) = some (decide (i = j)) := rfl
theorem opC2_neS (i j : Str) : opC2 .ne (.str i) (.str j) = some (!decide (i = j)) := rfl
theorem opC2_eqT (i j : List Tr) : opC2 .eq (.tup i) (.tup j) = eqT (.tup i) (.tup j) := rfl
theorem opC2_neT (i j : List Tr) : opC2 .ne (.tup i) (.tup j) = (eqT (.tup i) (.tup j)).map (!·) := rfl
theorem opC2_eqL (i j : List Tr) : opC2 .eq (.lst i) (.lst j) = eqT (.lst i) (.lst j) := rfl
theorem opC2_neL (i j : List Tr) : opC2 .ne (.lst i) (.lst j) = (eqT (.lst i) (.lst j)).map (!·) := rfl
theorem opC2_isN : opC2 .isN .non .non = some true := rfl
theorem opC2_isNI (i : Int) : opC2 .isN (.int i) .non = some false := rfl
theorem opC2_inT (x : Str) (l : List Tr) : opC2 .inn (.str x) (.tup l) = inT (.str x) (.tup l) := rfl
theorem opC2_ninT (x : Str) (l : List Tr) : opC2 .nin (.str x) (.tup l) = (inT (.str x) (.tup l)).map (!·) := rfl
theorem done_ret (t : Tr) (s : Sta) : done (.ok (.ret t) s) = some (t, s.mem) := rfl
theorem done_next (s : Sta) : done (.ok .next s) = some (.non, s.mem) := rfl
theorem sizeLine_eq : sizeLine = 16777216 := rfl
theorem set_get {α : Type} {l : List α} {n : Nat} {x y : α} (h : l[n]? = some y) : (l.set n x)[n]? = some x := by
  rw [List.getElem?_set_self (List.getElem?_eq_some_iff.mp h).1]
theorem atI_nat {α : Type} (l : List α) (n : Nat) : atI l (n : Int) = l[n]? := by
  unfold atI ixN
  by_cases h : n < l.length
  · simp [h]
  · have e : l[n]? = none := List.getElem?_eq_none (by omega)
    simp [h, e]
theorem atI_m1 {α : Type} (l : List α) : atI l (-1) = l.getLast? := by
  unfold atI ixN
  cases l with
  | nil => rfl
  | cons a l =>
    have e : (-1 + ((a :: l).length : Int)).toNat = l.length := by rw [List.length_cons]; omega
    rw [if_neg (by omega), if_pos (by rw [List.length_cons]; omega), e, List.getLast?_eq_getElem?]
    rfl
theorem idxT_tm (l : List Tr) : idxT (.tup l) (.int (-1)) = l.getLast? := atI_m1 l
theorem idxT_lm (l : List Tr) : idxT (.lst l) (.int (-1)) = l.getLast? := atI_m1 l
theorem idxT_t0 (l : List Tr) : idxT (.tup l) (.int 0) = l[0]? := atI_nat l 0
theorem idxT_l0 (l : List Tr) : idxT (.lst l) (.int 0) = l[0]? := atI_nat l 0
theorem idxT_t1 (l : List Tr) : idxT (.tup l) (.int 1) = l[1]? := atI_nat l 1
theorem idxT_l1 (l : List Tr) : idxT (.lst l) (.int 1) = l[1]? := atI_nat l 1
theorem idxT_t2 (l : List Tr) : idxT (.tup l) (.int 2) = l[2]? := atI_nat l 2
theorem idxT_l2 (l : List Tr) : idxT (.lst l) (.int 2) = l[2]? := atI_nat l 2
theorem idxT_t3 (l : List Tr) : idxT (.tup l) (.int 3) = l[3]? := atI_nat l 3
theorem idxT_l3 (l : List Tr) : idxT (.lst l) (.int 3) = l[3]? := atI_nat l 3
theorem idxT_t4 (l : List Tr) : idxT (.tup l) (.int 4) = l[4]? := atI_nat l 4
theorem idxT_l4 (l : List Tr) : idxT (.lst l) (.int 4) = l[4]? := atI_nat l 4
theorem idxT_t5 (l : List Tr) : idxT (.tup l) (.int 5) = l[5]? := atI_nat l 5
theorem idxT_l5 (l : List Tr) : idxT (.lst l) (.int 5) = l[5]? := atI_nat l 5
theorem p_non : Tr.pure .non = true := rfl
theorem p_bl (x : Bool) : Tr.pure (.bl x) = true := rfl
theorem d_bl (s : Sta) (x : Bool) : s.deref (.bl x) = .bl x := rfl
theorem p_int (x : Int) : Tr.pure (.int x) = true := rfl
theorem d_int (s : Sta) (x : Int) : s.deref (.int x) = .int x := rfl
theorem p_str (x : Str) : Tr.pure (.str x) = true := rfl
theorem d_str (s : Sta) (x : Str) : s.deref (.str x) = .str x := rfl
theorem p_tup (x : List Tr) : Tr.pure (.tup x) = true := rfl
theorem d_tup (s : Sta) (x : List Tr) : s.deref (.tup x) = .tup x := rfl
theorem p_lst (x : List Tr) : Tr.pure (.lst x) = true := rfl
theorem d_lst (s : Sta) (x : List Tr) : s.deref (.lst x) = .lst x := rfl
theorem p_flst (x : List Tr) : Tr.pure (.flst x) = true := rfl
theorem d_flst (s : Sta) (x : List Tr) : s.deref (.flst x) = .flst x := rfl
theorem p_ob (x : Nat) : Tr.pure (.ob x) = true := rfl
theorem d_ob (s : Sta) (x : Nat) : s.deref (.ob x) = .ob x := rfl
theorem d_non (s : Sta) : s.deref .non = .non := rfl
theorem p_bor (i : Nat) : Tr.pure (.bor i) = false := rfl
theorem d_own {s : Sta} {i : Nat} {l : List Tr} (h : s.env[i]? = some (.own l)) : s.deref (.bor i) = .lst l := by simp only [Sta.deref, h]
theorem d_pure {s : Sta} {t : Tr} (h : t.pure = true) : s.deref t = t := by cases t <;> first | rfl | cases h
theorem allRep (n : Nat) : (List.replicate n true).all id = true := by
  induction n with
  | zero => rfl
  | succ n ih => rw [List.replicate_succ, List.all_cons, ih]; rfl
theorem flat_rep {α : Type} (t : α) : ∀ n : Nat, (List.replicate n [t]).flatten = List.replicate n t
  | 0 => rfl
  | n + 1 => by rw [List.replicate_succ, List.flatten_cons, flat_rep t n]; rfl
theorem opB_rep {t : Tr} {k : Int} (h : k.natAbs ≤ 1000) : opB .mul (.lst [t]) (.int (if k < 0 then -k else k)) = some (.lst (List.replicate k.natAbs t)) := by
  have e : (if k < 0 then -k else k) = (k.natAbs : Int) := by split <;> omega
  rw [e]
  simp only [opB, Int.toNat_natCast, flat_rep]
  exact if_pos ⟨by omega, by omega, by rw [sizeLine_eq]; simp; omega⟩
theorem eqT_int (a b : Int) : eqT (.int a) (.int b) = some (decide (a = b)) := rfl
theorem eqT_str (a b : Str) : eqT (.str a) (.str b) = some (decide (a = b)) := rfl
end Ev
/-! The evaluator with its continuations named, for stepwise evaluation. -/
namespace Ev
open PySem L2
section
variable (gc : List Tr) (cf : CF)
def kTruth (x : Tr) (s1 : Sta) : Rs Tr := Rs.of ((truth (s1.deref x)).map Tr.bl) s1
def kVar (i : Nat) (s : Sta) : Option Slot → Rs Tr
  | some (.val t) => .ok t s
  | some (.own _) => .ok (.bor i) s
  | _ => .no
def kMv (i : Nat) (s : Sta) : Option Slot → Rs Tr
  | some (.own l) => .ok (.lst l) ⟨s.env.set i (.val (.lst l)), s.mem⟩
  | _ => .no
def kTup (ts : List Tr) (s1 : Sta) : Rs Tr := if ts.all Tr.pure && decide (ts.length ≤ sizeLine) then .ok (.tup ts) s1 else .no
def kLst (ts : List Tr) (s1 : Sta) : Rs Tr := if ts.all Tr.pure && decide (ts.length ≤ sizeLine) then .ok (.lst ts) s1 else .no
def kShd (ts : List Tr) (s1 : Sta) : Rs Tr := if ts.all Tr.pure && decide (ts.length ≤ sizeLine) then .ok (.ob s1.mem.length) ⟨s1.env, s1.mem ++ [.lst ts]⟩ else .no
def kBin2 (o : Op) (x y : Tr) (s2 : Sta) : Rs Tr := Rs.of (opB o (s2.deref x) (s2.deref y)) s2
def kBin1 (o : Op) (b : Ex) (x : Tr) (s1 : Sta) : Rs Tr := (evX gc cf b false s1).bind (kBin2 o x)
def kNeg (x : Tr) (s1 : Sta) : Rs Tr := match x with
  | .int i => .ok (.int (-i)) s1
  | _ => .no
def kCmp2 (o : Cp) (x y : Tr) (s2 : Sta) : Rs Tr := Rs.of ((opC2 o (s2.deref x) (s2.deref y)).map Tr.bl) s2
def kCmp1 (o : Cp) (b : Ex) (x : Tr) (s1 : Sta) : Rs Tr := (evX gc cf b false s1).bind (kCmp2 o x)
def kChain3 (p : Cp) (y z : Tr) (s3 : Sta) : Rs Tr := Rs.of ((opC2 p (s3.deref y) (s3.deref z)).map Tr.bl) s3
def kChain2' (p : Cp) (c : Ex) (y : Tr) (s2 : Sta) : Option Bool → Rs Tr
  | some true => (evX gc cf c false s2).bind (kChain3 p y)
  | some false => .ok (.bl false) s2
  | none => .no
def kChain2 (o p : Cp) (c : Ex) (x y : Tr) (s2 : Sta) : Rs Tr := kChain2' gc cf p c y s2 (opC2 o (s2.deref x) (s2.deref y))
def kChain1 (o p : Cp) (b c : Ex) (x : Tr) (s1 : Sta) : Rs Tr := (evX gc cf b false s1).bind (kChain2 gc cf o p c x)
def kAnd (b : Ex) (md : Bool) (x : Tr) (s1 : Sta) : Rs Tr := match x with
  | .bl true => evX gc cf b md s1
  | .bl false => .ok (.bl false) s1
  | _ => .no
def kOr (b : Ex) (md : Bool) (x : Tr) (s1 : Sta) : Rs Tr := match x with
  | .bl false => evX gc cf b md s1
  | .bl true => .ok (.bl true) s1
  | _ => .no
def kNot (x : Tr) (s1 : Sta) : Rs Tr := match x with
  | .bl b => .ok (.bl !b) s1
  | _ => .no
def kIte (a b : Ex) (md : Bool) (x : Tr) (s1 : Sta) : Rs Tr := match x with
  | .bl true => evX gc cf a md s1
  | .bl false => evX gc cf b md s1
  | _ => .no
def kIdxM (y : Tr) (s2 : Sta) : Option Ob → Rs Tr
  | some (.lst l) => Rs.of (idxT (.lst l) y) s2
  | none => .no
def kIdx3 (y : Tr) (s2 : Sta) (t : Tr) : Rs Tr := match t with
  | .ob n => kIdxM y s2 s2.mem[n]?
  | t => Rs.of (idxT t y) s2
def kIdx2 (x y : Tr) (s2 : Sta) : Rs Tr := kIdx3 y s2 (s2.deref x)
def kIdx1 (b : Ex) (x : Tr) (s1 : Sta) : Rs Tr := (evX gc cf b false s1).bind (kIdx2 x)
def kSl3 (x : Tr) (l h : Option Int) (s3 : Sta) : Rs Tr := Rs.of (slT (s3.deref x) l h) s3
def kO (e : Ex) (s : Sta) : Rs (Option Int) := if isNul e then .ok none s else asInt (evX gc cf e false s)
def kSl2 (hi : Ex) (x : Tr) (l : Option Int) (s2 : Sta) : Rs Tr := (kO gc cf hi s2).bind (kSl3 x l)
def kSl1 (lo hi : Ex) (x : Tr) (s1 : Sta) : Rs Tr := (kO gc cf lo s1).bind (kSl2 gc cf hi x)
def kRev (x : Tr) (s1 : Sta) : Rs Tr := match s1.deref x with
  | .lst l => .ok (.lst l.reverse) s1
  | .tup l => .ok (.tup l.reverse) s1
  | _ => .no
def kRes (s1 : Sta) : Option (Tr × List Ob) → Rs Tr
  | some (t, m) => .ok t ⟨s1.env, m⟩
  | none => .no
def kCall (f : Nat) (ts : List Tr) (s1 : Sta) : Rs Tr := if ts.all Tr.pure then kRes s1 (cf f ts s1.mem) else .no
def kCallK2 (f : Nat) (ts us : List Tr) (s2 : Sta) : Rs Tr := if (ts ++ us).all Tr.pure then kRes s2 (cf f (ts ++ us) s2.mem) else .no
def kCallK1 (f : Nat) (ks : List Ex) (ts : List Tr) (s1 : Sta) : Rs Tr := (evEs gc cf ks s1).bind (kCallK2 cf f ts)
def kBi (b : Bi) (ts : List Tr) (s1 : Sta) : Rs Tr := if (ts.map s1.deref).all Tr.pure then Rs.of (biT b (ts.map s1.deref)) s1 else .no
def kPop2 (i : Nat) (s : Sta) (l : List Tr) : Option Tr → Rs Tr
  | some t => .ok t ⟨s.env.set i (.own l.dropLast), s.mem⟩
  | none => .no
def kPop (i : Nat) (s : Sta) : Option Slot → Rs Tr
  | some (.own l) => kPop2 i s l l.getLast?
  | _ => .no
def kComp3 (s1 : Sta) : Option (List Tr × List Ob) → Rs Tr
  | some (ys, m) => .ok (.lst ys) ⟨s1.env, m⟩
  | none => .no
def kCond (cond : Ex) (s : Sta) : Rs Tr := if isNul cond then .ok (.bl true) s else evX gc cf cond true s
def kElt (elt : Ex) (s : Sta) : Rs Tr := evX gc cf elt false s
def kComp2 (elt : Ex) (tg : Tg) (cond : Ex) (own : List Nat) (s1 : Sta) : Option (List Tr) → Rs Tr
  | some xs => kComp3 s1 (compGo (compF tg (wipeE (s1.env.map Slot.lock) own) (kCond gc cf cond) (kElt gc cf elt)) xs s1.mem [])
  | none => .no
def kComp (k : Nat) (elt : Ex) (tg : Tg) (cond : Ex) (own : List Nat) (vs : List Tr) (s1 : Sta) : Rs Tr := kComp2 gc cf elt tg cond own s1 (if (vs.map s1.deref).all Tr.pure then items k (vs.map s1.deref) else none)
def kEs2 (t : Tr) (ts : List Tr) (s2 : Sta) : Rs (List Tr) := .ok (t :: ts) s2
def kEs1 (es : List Ex) (t : Tr) (s1 : Sta) : Rs (List Tr) := (evEs gc cf es s1).bind (kEs2 t)
def kSt2 (l ts : List Tr) (s2 : Sta) : Rs (List Tr) := .ok (l ++ ts) s2
def kSt3 (es : List Ex) (bs : List Bool) (s1 : Sta) : Option (List Tr) → Rs (List Tr)
  | some l => (evSt gc cf es bs.tail s1).bind (kSt2 l)
  | none => .no
def kSt1 (es : List Ex) (bs : List Bool) (t : Tr) (s1 : Sta) : Rs (List Tr) := if bs.headD false then kSt3 gc cf es bs s1 (seqT (s1.deref t)) else (evSt gc cf es bs.tail s1).bind (kEs2 t)
def kDisp (k : Nat) (ts : List Tr) (s1 : Sta) : Rs Tr := if ts.all Tr.pure && decide (ts.length ≤ sizeLine) then (match k with
      | 0 => .ok (.tup ts) s1
      | 1 => .ok (.lst ts) s1
      | _ => .ok (.ob s1.mem.length) ⟨s1.env, s1.mem ++ [.lst ts]⟩) else .no
end
section
variable {gc : List Tr} {cf : CF} {s : Sta} {e a b c : Ex} {es : List Ex}
theorem q_var {i : Nat} : evX gc cf (.var i) false s = kVar i s s.env[i]? := by simp only [evX, fin]; rfl
theorem q_mv {i : Nat} : evX gc cf (.mv i) false s = kMv i s s.env[i]? := by simp only [evX, fin]; rfl
theorem q_gl {k : Nat} : evX gc cf (.gl k) false s = Rs.of gc[k]? s := by simp only [evX, fin]
theorem q_int {i : Int} : evX gc cf (.int i) false s = .ok (.int i) s := by simp only [evX, fin]
theorem q_str {x : Str} : evX gc cf (.str x) false s = .ok (.str x) s := by simp only [evX, fin]
theorem q_bl {x : Bool} : evX gc cf (.bl x) false s = .ok (.bl x) s := by simp only [evX, fin]
theorem q_non : evX gc cf .non false s = .ok .non s := by simp only [evX, fin]
theorem q_tup : evX gc cf (.tup es) false s = (evEs gc cf es s).bind kTup := by simp only [evX, fin]; rfl
theorem q_lst : evX gc cf (.lst es) false s = (evEs gc cf es s).bind kLst := by simp only [evX, fin]; rfl
theorem q_shd : evX gc cf (.shd es) false s = (evEs gc cf es s).bind kShd := by simp only [evX, fin]; rfl
theorem q_disp {k : Nat} {bs : List Bool} : evX gc cf (.disp k bs es) false s = (evSt gc cf es bs s).bind (kDisp k) := by simp only [evX, fin]; rfl
theorem q_bin {o : Op} : evX gc cf (.bin o a b) false s = (evX gc cf a false s).bind (kBin1 gc cf o b) := by simp only [evX, fin]; rfl
theorem q_neg : evX gc cf (.neg a) false s = (evX gc cf a false s).bind kNeg := by simp only [evX, fin]; rfl
theorem q_cmp {o : Cp} : evX gc cf (.cmp o a b) false s = (evX gc cf a false s).bind (kCmp1 gc cf o b) := by simp only [evX, fin]; rfl
theorem q_chain {o p : Cp} : evX gc cf (.chain o p a b c) false s = (evX gc cf a false s).bind (kChain1 gc cf o p b c) := by simp only [evX, fin]; rfl
theorem q_and {md : Bool} : evX gc cf (.and_ a b) md s = (evX gc cf a md s).bind (kAnd gc cf b md) := by simp only [evX]; rfl
theorem q_or {md : Bool} : evX gc cf (.or_ a b) md s = (evX gc cf a md s).bind (kOr gc cf b md) := by simp only [evX]; rfl
theorem q_not : evX gc cf (.not_ a) true s = (evX gc cf a true s).bind kNot := by simp only [evX]; rfl
theorem q_notF : evX gc cf (.not_ a) false s = ((evX gc cf a false s).bind kTruth).bind kNot := by simp only [evX]; rfl
theorem q_ite {md : Bool} : evX gc cf (.ite c a b) md s = (evX gc cf c true s).bind (kIte gc cf a b md) := by simp only [evX]; rfl
theorem q_idx : evX gc cf (.idx a b) false s = (evX gc cf a false s).bind (kIdx1 gc cf b) := by simp only [evX, fin]; rfl
theorem q_sl : evX gc cf (.sl a b c) false s = (evX gc cf a false s).bind (kSl1 gc cf b c) := by simp only [evX, fin]; rfl
theorem q_rev : evX gc cf (.rev a) false s = (evX gc cf a false s).bind kRev := by simp only [evX, fin]; rfl
theorem q_call {f : Nat} : evX gc cf (.call f es) false s = (evEs gc cf es s).bind (kCall cf f) := by simp only [evX, fin]; rfl
theorem q_callK {f : Nat} {ks : List Ex} : evX gc cf (.callK f es ks) false s = (evEs gc cf es s).bind (kCallK1 gc cf f ks) := by simp only [evX, fin]; rfl
theorem q_bi {b : Bi} : evX gc cf (.bi b es) false s = (evEs gc cf es s).bind (kBi b) := by simp only [evX, fin]; rfl
theorem q_pop {i : Nat} : evX gc cf (.pop i) false s = kPop i s s.env[i]? := by simp only [evX, fin]; rfl
theorem q_comp {k : Nat} {tg : Tg} {own : List Nat} : evX gc cf (.comp k e tg es c own) false s = (evEs gc cf es s).bind (kComp gc cf k e tg c own) := by simp only [evX, fin]; rfl
theorem q_nil : evEs gc cf [] s = .ok [] s := by simp only [evEs]
theorem q_cons : evEs gc cf (e :: es) s = (evX gc cf e false s).bind (kEs1 gc cf es) := by simp only [evEs]; rfl
theorem q_snil {bs : List Bool} : evSt gc cf [] bs s = .ok [] s := by simp only [evSt]
theorem q_scons {bs : List Bool} : evSt gc cf (e :: es) bs s = (evX gc cf e false s).bind (kSt1 gc cf es bs) := by simp only [evSt]; rfl
theorem t_var {i : Nat} : evX gc cf (.var i) true s = (evX gc cf (.var i) false s).bind kTruth := by simp only [evX, fin]; rfl
theorem t_gl {i : Nat} : evX gc cf (.gl i) true s = (evX gc cf (.gl i) false s).bind kTruth := by simp only [evX, fin]; rfl
theorem t_bl {x : Bool} : evX gc cf (.bl x) true s = (evX gc cf (.bl x) false s).bind kTruth := by simp only [evX, fin]; rfl
theorem t_cmp {o : Cp} : evX gc cf (.cmp o a b) true s = (evX gc cf (.cmp o a b) false s).bind kTruth := by simp only [evX, fin]; rfl
theorem t_chain {o p : Cp} : evX gc cf (.chain o p a b c) true s = (evX gc cf (.chain o p a b c) false s).bind kTruth := by simp only [evX, fin]; rfl
theorem t_idx : evX gc cf (.idx a b) true s = (evX gc cf (.idx a b) false s).bind kTruth := by simp only [evX, fin]; rfl
theorem t_call {f : Nat} : evX gc cf (.call f es) true s = (evX gc cf (.call f es) false s).bind kTruth := by simp only [evX, fin]; rfl
theorem t_callK {f : Nat} {ks : List Ex} : evX gc cf (.callK f es ks) true s = (evX gc cf (.callK f es ks) false s).bind kTruth := by simp only [evX, fin]; rfl
theorem t_bi {b : Bi} : evX gc cf (.bi b es) true s = (evX gc cf (.bi b es) false s).bind kTruth := by simp only [evX, fin]; rfl
theorem t_bin {o : Op} : evX gc cf (.bin o a b) true s = (evX gc cf (.bin o a b) false s).bind kTruth := by simp only [evX, fin]; rfl
theorem kTruth_bl {x : Bool} : kTruth (.bl x) s = .ok (.bl x) s := rfl
end
section
variable (gc : List Tr) (cf : CF) (wf : Nat)
def kSet (i : Nat) (t : Tr) (s1 : Sta) : Rs Fl := if t.pure && decide (i < s1.env.length) then .ok .next ⟨s1.env.set i (.val t), s1.mem⟩ else .no
def kOwn (i : Nat) (ts : List Tr) (s1 : Sta) : Rs Fl := if ts.all Tr.pure && decide (ts.length ≤ sizeLine) && decide (i < s1.env.length) then .ok .next ⟨s1.env.set i (.own ts), s1.mem⟩ else .no
def kOwnOf2 (i : Nat) (s1 : Sta) : Option (List Tr) → Rs Fl
  | some l => if i < s1.env.length then .ok .next ⟨s1.env.set i (.own l), s1.mem⟩ else .no
  | none => .no
def kOwnOf (i : Nat) (t : Tr) (s1 : Sta) : Rs Fl := kOwnOf2 i s1 (seqT (s1.deref t))
def kEnv (m : List Ob) : Option (List Slot) → Rs Fl
  | some env => .ok .next ⟨env, m⟩
  | none => .no
def kMany (is : List (Nat × Bool)) (ts : List Tr) (s1 : Sta) : Rs Fl := if ts.all Tr.pure then kEnv s1.mem (manyGo is ts s1.env) else .no
def kTgt (tg : Tg) (t : Tr) (s1 : Sta) : Rs Fl := kEnv s1.mem (asg tg t s1.env)
def kAug2 (i : Nat) (o : Op) (x : Int) (y : Tr) (s1 : Sta) : Rs Fl := match o, y with
      | .add, .int y => .ok .next ⟨s1.env.set i (.val (.int (x + y))), s1.mem⟩
      | .sub, .int y => .ok .next ⟨s1.env.set i (.val (.int (x - y))), s1.mem⟩
      | _, _ => .no
def kAug (i : Nat) (o : Op) (e : Ex) (s : Sta) : Option Slot → Rs Fl
  | some (.val (.int x)) => (evX gc cf e false s).bind (kAug2 i o x)
  | _ => .no
def kPut5 (n : Nat) (l : List Tr) (t : Tr) (s3 : Sta) : Option Nat → Rs Fl
  | some j => if t.pure then .ok .next ⟨s3.env, s3.mem.set n (.lst (l.set j t))⟩ else .no
  | none => .no
def kPut4 (n : Nat) (i : Int) (t : Tr) (s3 : Sta) : Option Ob → Rs Fl
  | some (.lst l) => kPut5 n l t s3 (ixN l.length i)
  | none => .no
def kPut3 (t x y : Tr) (s3 : Sta) : Rs Fl := match x, y with
    | .ob n, .int i => kPut4 n i t s3 s3.mem[n]?
    | _, _ => .no
def kPut2 (k : Ex) (t x : Tr) (s2 : Sta) : Rs Fl := (evX gc cf k false s2).bind (kPut3 t x)
def kPut1 (o k : Ex) (t : Tr) (s1 : Sta) : Rs Fl := (evX gc cf o false s1).bind (kPut2 gc cf k t)
def kApp3 (i : Nat) (t : Tr) (s1 : Sta) : Option Slot → Rs Fl
  | some (.own l) => if t.pure && decide (l.length < sizeLine) then .ok .next ⟨s1.env.set i (.own (l ++ [t])), s1.mem⟩ else .no
  | _ => .no
def kApp2 (i : Nat) (t : Tr) (s1 : Sta) : Rs Fl := kApp3 i t s1 s1.env[i]?
def kApp (i : Nat) (e : Ex) (s : Sta) : Option Slot → Rs Fl
  | some (.own _) => (evX gc cf e false s).bind (kApp2 i)
  | _ => .no
def kExt3 (i : Nat) (s1 : Sta) : Option Slot → Tr → Rs Fl
  | some (.own l), .lst m => if l.length + m.length ≤ sizeLine then .ok .next ⟨s1.env.set i (.own (l ++ m)), s1.mem⟩ else .no
  | some (.own l), .tup m => if l.length + m.length ≤ sizeLine then .ok .next ⟨s1.env.set i (.own (l ++ m)), s1.mem⟩ else .no
  | _, _ => .no
def kExt2 (i : Nat) (t : Tr) (s1 : Sta) : Rs Fl := kExt3 i s1 s1.env[i]? t
def kExt (i : Nat) (e : Ex) (s : Sta) : Option Slot → Rs Fl
  | some (.own _) => (evX gc cf e false s).bind (kExt2 i)
  | _ => .no
def kEx (_ : Tr) (s1 : Sta) : Rs Fl := .ok .next s1
def kRet (t : Tr) (s1 : Sta) : Rs Fl := if t.pure then .ok (.ret t) s1 else .no
def kIf (a b : List Sm) (x : Tr) (s1 : Sta) : Rs Fl := match x with
    | .bl true => exSs gc cf wf a s1
    | .bl false => exSs gc cf wf b s1
    | _ => .no
def kFor2 (tg : Tg) (b : List Sm) (s1 : Sta) : Option (List Tr) → Rs Fl
  | some xs => forGo tg (exSs gc cf wf b) xs s1
  | none => .no
def kFor (k : Nat) (tg : Tg) (b : List Sm) (vs : List Tr) (s1 : Sta) : Rs Fl := if vs.all Tr.pure then kFor2 gc cf wf tg b s1 (items k vs) else .no
def kSeq (xs : List Sm) : Fl → Sta → Rs Fl
  | .next, s1 => exSs gc cf wf xs s1
  | .brk, s1 => .ok .brk s1
  | .cont, s1 => .ok .cont s1
  | .ret t, s1 => .ok (.ret t) s1
end
section
variable {gc : List Tr} {cf : CF} {wf : Nat} {s : Sta} {e a b c : Ex} {es : List Ex} {x y : List Sm} {i : Nat}
theorem s_set : exS gc cf wf (.set i e) s = (evX gc cf e false s).bind (kSet i) := by simp only [exS]; rfl
theorem s_own : exS gc cf wf (.own i es) s = (evEs gc cf es s).bind (kOwn i) := by simp only [exS]; rfl
theorem s_ownOf : exS gc cf wf (.ownOf i e) s = (evX gc cf e false s).bind (kOwnOf i) := by simp only [exS]; rfl
theorem s_many {is : List (Nat × Bool)} : exS gc cf wf (.many is es) s = (evEs gc cf es s).bind (kMany is) := by simp only [exS]; rfl
theorem s_tgt {tg : Tg} : exS gc cf wf (.tgt tg e) s = (evX gc cf e false s).bind (kTgt tg) := by simp only [exS]; rfl
theorem s_aug {o : Op} : exS gc cf wf (.aug i o e) s = kAug gc cf i o e s s.env[i]? := by simp only [exS]; rfl
theorem s_put : exS gc cf wf (.put a b c) s = (evX gc cf c false s).bind (kPut1 gc cf a b) := by simp only [exS]; rfl
theorem s_app : exS gc cf wf (.app i e) s = kApp gc cf i e s s.env[i]? := by simp only [exS]; rfl
theorem s_ext : exS gc cf wf (.ext i e) s = kExt gc cf i e s s.env[i]? := by simp only [exS]; rfl
theorem s_ex : exS gc cf wf (.ex e) s = (evX gc cf e false s).bind kEx := by simp only [exS]; rfl
theorem s_ret : exS gc cf wf (.ret e) s = (evX gc cf e false s).bind kRet := by simp only [exS]; rfl
theorem s_retN : exS gc cf wf .retN s = .ok (.ret .non) s := by simp only [exS]
theorem s_ite : exS gc cf wf (.ite e x y) s = (evX gc cf e true s).bind (kIf gc cf wf x y) := by simp only [exS]; rfl
theorem s_for {k : Nat} {tg : Tg} : exS gc cf wf (.forr k tg es x) s = (evEs gc cf es s).bind (kFor gc cf wf k tg x) := by simp only [exS]; rfl
theorem s_whl : exS gc cf wf (.whl e x) s = whGo (evX gc cf e true) (exSs gc cf wf x) wf s := by simp only [exS]
theorem s_brk : exS gc cf wf .brk s = .ok .brk s := by simp only [exS]
theorem s_cont : exS gc cf wf .cont s = .ok .cont s := by simp only [exS]
theorem s_pass : exS gc cf wf .pass s = .ok .next s := by simp only [exS]
theorem s_nil : exSs gc cf wf [] s = .ok .next s := by simp only [exSs]
theorem s_cons {z : Sm} : exSs gc cf wf (z :: x) s = (exS gc cf wf z s).bind (kSeq gc cf wf x) := by
  simp only [exSs]
  congr 1
  funext f s1
  cases f <;> rfl
end
end Ev
/-! repr gives a text. -/
namespace Ev
open PySem
mutual
def sh : Nat → Tr → Option Nat
  | _, .int i => if i.natAbs.log2 < 1920 then some 1921 else none
  | _, .str z => some (reprText z).length
  | 0, _ => none
  | n + 1, .tup l => match shs n l with
    | some k => some (k + 3)
    | none => none
  | n + 1, .lst l => match shs n l with
    | some k => some (k + 3)
    | none => none
  | _, _ => none
def shs : Nat → List Tr → Option Nat
  | _, [] => some 0
  | n, t :: l => match sh n t, shs n l with
    | some a, some b => some (a + b + 2)
    | _, _ => none
end
theorem tupleText_le (ts : List Str) : (tupleText ts).length ≤ piled ts + 3 := by
  unfold tupleText
  have e : ∀ a b : Str, (a ++ b).length = a.length + b.length := fun a b => strLen_append a b
  rw [e, e]
  have h1 : (("(" : String) : Str).length = 1 := rfl
  have h2 : (((if ts.length == 1 then ",)" else ")" : String) : Str)).length ≤ 2 := by
    split <;> decide +kernel
  have h3 : (Str.join ", " ts).length ≤ piled ts := by
    cases ts with
    | nil => exact Nat.zero_le _
    | cons a r => have := join_length_add (a :: r) (by simp); omega
  have h4 : (("(" : Str)).length = 1 := rfl
  omega
theorem listText_le (ts : List Str) : (listText ts).length ≤ piled ts + 3 := by
  have key : ∀ (ts : List Str) (k : Nat) (acc : Str), (textFrom k acc ts).length ≤ acc.length + piled ts := by
    intro ts
    induction ts with
    | nil => intro k acc; exact Nat.le_add_right _ _
    | cons t r ih =>
      intro k acc
      have h := ih (k + 1) (acc ++ (if k > 0 then ", " else "" : String) ++ t)
      have e : (acc ++ (if k > 0 then ", " else "" : String) ++ t).length = acc.length + (if k > 0 then 2 else 0) + t.length := by
        rw [strLen_append, strLen_append]
        congr 2
        split <;> rfl
      rw [piled_cons]
      show (textFrom (k + 1) (acc ++ (if k > 0 then ", " else "" : String) ++ t) r).length ≤ _
      have e2 : (if k > 0 then 2 else 0) ≤ 2 := by split <;> omega
      omega
  unfold listText
  rw [strLen_append]
  have h := key ts 0 "["
  have h1 : (("[" : String) : Str).length = 1 := rfl
  have h2 : (("]" : String) : Str).length = 1 := rfl
  omega
mutual
theorem sh_ok : ∀ (n : Nat) (t : Tr) (k : Nat), sh n t = some k → ∃ d, t.data = some d ∧ d.showable = true ∧ d.shown.length ≤ k ∧ d.depth ≤ n
  | n, .int i, k, h => by
    have h' : (if i.natAbs.log2 < 1920 then some 1921 else none) = some k := by cases n <;> simpa only [sh] using h
    split at h'
    · rename_i hi
      cases h'
      exact ⟨.int i, by simp only [Tr.data], by simpa [PyData.showable] using hi, by simp only [PyData.shown]; exact PyProof.Rows.int_text_len_1921 hi, by simp [PyData.depth]⟩
    · cases h'
  | n, .str z, k, h => by
    have h' : some (reprText z).length = some k := by cases n <;> simpa only [sh] using h
    cases h'
    exact ⟨.str z, by simp only [Tr.data], by simp [PyData.showable], by simp only [PyData.shown]; exact Nat.le_refl _, by simp [PyData.depth]⟩
  | 0, .tup l, k, h => by simp [sh] at h
  | n + 1, .tup l, k, h => by
    simp only [sh] at h
    cases e : shs n l with
    | none => rw [e] at h; cases h
    | some j =>
      rw [e] at h
      cases h
      obtain ⟨ds, h1, h2, h3, h4⟩ := shs_ok n l j e
      refine ⟨.tuple ds, by simp only [Tr.data, h1], by simpa only [PyData.showable] using h2, ?_, by simp only [PyData.depth]; omega⟩
      simp only [PyData.shown]
      exact Nat.le_trans (tupleText_le _) (by omega)
  | n, .non, k, h => by cases n <;> simp [sh] at h
  | n, .bl b, k, h => by cases n <;> simp [sh] at h
  | 0, .lst l, k, h => by simp [sh] at h
  | n + 1, .lst l, k, h => by
    simp only [sh] at h
    cases e : shs n l with
    | none => rw [e] at h; cases h
    | some j =>
      rw [e] at h
      cases h
      obtain ⟨ds, h1, h2, h3, h4⟩ := shs_ok n l j e
      refine ⟨.list ds, by simp only [Tr.data, h1], by simpa only [PyData.showable] using h2, ?_, by simp only [PyData.depth]; omega⟩
      simp only [PyData.shown]
      exact Nat.le_trans (listText_le _) (by omega)
  | n, .flst l, k, h => by cases n <;> simp [sh] at h
  | n, .ob b, k, h => by cases n <;> simp [sh] at h
  | n, .bor b, k, h => by cases n <;> simp [sh] at h
theorem shs_ok : ∀ (n : Nat) (l : List Tr) (k : Nat), shs n l = some k → ∃ ds, datas l = some ds ∧ PyData.showableAll ds = true ∧ piled (PyData.shownAll ds) ≤ k ∧ PyData.depthAll ds ≤ n
  | n, [], k, h => by
    simp only [shs] at h
    cases h
    exact ⟨[], by simp only [datas], by simp only [PyData.showableAll], by simp [PyData.shownAll, piled], by simp [PyData.depthAll]⟩
  | n, t :: l, k, h => by
    simp only [shs] at h
    cases e1 : sh n t with
    | none => rw [e1] at h; cases h
    | some a =>
      cases e2 : shs n l with
      | none => rw [e1, e2] at h; cases h
      | some b =>
        rw [e1, e2] at h
        cases h
        obtain ⟨d, h1, h2, h3, h4⟩ := sh_ok n t a e1
        obtain ⟨ds, h5, h6, h7, h8⟩ := shs_ok n l b e2
        refine ⟨d :: ds, by simp only [datas, h1, h5], by simp only [PyData.showableAll, h2, h6]; rfl, ?_, by simp only [PyData.depthAll]; omega⟩
        simp only [PyData.shownAll]
        have : piled (d.shown :: PyData.shownAll ds) = d.shown.length + 2 + piled (PyData.shownAll ds) := by simp [piled]
        omega
end
theorem repr_of {n k : Nat} {t : Tr} (h : sh n t = some k) (hn : n ≤ 64) (hk : k ≤ 16777216) : ∃ z, reprT t = some (.str z) := by
  obtain ⟨d, h1, h2, h3, h4⟩ := sh_ok n t k h
  refine ⟨d.shown, ?_⟩
  unfold reprT
  rw [h1]
  dsimp only
  rw [if_pos]
  have a1 : decide (d.shown.length ≤ sizeLine) = true := decide_eq_true (by rw [Ev.sizeLine_eq]; omega)
  have a2 : decide (d.depth ≤ 64) = true := decide_eq_true (by omega)
  rw [h2, a1, a2]
  rfl
theorem shs_map {α : Type} {f : α → Tr} {n c : Nat} : ∀ {l : List α}, (∀ x ∈ l, sh n (f x) = some c) → shs n (l.map f) = some (l.length * (c + 2))
  | [], _ => by simp [shs]
  | x :: l, h => by
    rw [List.map_cons]
    simp only [shs, h x (by simp), shs_map (l := l) fun y hy => h y (by simp [hy])]
    congr 1
    rw [List.length_cons, Nat.add_mul]
    omega
theorem log_of {i : Int} {B : Nat} (h : i.natAbs ≤ B) (hb : B < 2 ^ 1920) : i.natAbs.log2 < 1920 := log2_le_of (by omega) (Nat.lt_of_le_of_lt h hb)
end Ev
/-! The functions of the law, in the own language. -/
namespace G17
open Ev PySem
/-! 0 law(script): 0=script 1=place -/
def e0_0 : Ex := .call 2 [.call 3 [.var 0, .var 1]]
def b0 : List Sm := [
  .ret (.bi .all [.comp 0 e0_0 (.nm 1) [.call 1 [.var 0, .int 3]] .nul [1]])]
def f0 : Fn := ⟨1, 2, b0⟩
/-! 1 _law_cells(script, limit): 0=script 1=limit -/
def b1 : List Sm := [
  .ret (.bi .listRg [.bi .max2 [.int 1, .bi .min2 [.var 1, .bi .len [.var 0]]]])]
def f1 : Fn := ⟨2, 2, b1⟩
/-! 2 _law_right(pot): 0=pot 1=words 2=lap 3=forms 4=word 5=told 6=back 7=pair 8=mover 9=due 10=both -/
def e2_0 : Ex := .call 4 [.var 0, .call 5 [.var 0, .int 9]]
def e2_1 : Ex := .call 6 [.var 4]
def l2_2 : List Sm := [.set 6 (.callK 8 [] [.var 5]), .ite (.or_ (.cmp .ne (.bi .repr [.var 6]) (.bi .repr [.call 6 [.call 9 [.var 4]]])) (.cmp .ne (.bi .repr [.call 8 [.var 6]]) (.bi .repr [.var 5]))) [.ret (.bl false)] [], .ite (.or_ (.cmp .ne (.bi .repr [.lst [.call 7 [.var 5, .var 6], .call 7 [.var 6, .var 5]]]) (.bi .repr [.bin .mul (.lst [.tup [.tup [], .int 0, .int 0]]) (.int 2)])) (.cmp .ne (.bi .repr [.call 7 [.var 5, .tup [.tup [], .int 0, .int 0]]]) (.bi .repr [.var 5]))) [.ret (.bl false)] [], .set 7 (.tup [.call 10 [.var 0, .lst [.int 0, .int 1, .neg (.int 2), .int 9]], .call 10 [.var 0, .lst [.int 0, .int 3, .neg (.int 1)]]]), .set 8 (.tup [.tup [.str "y", .bin .sub (.int 0) (.idx (.var 7) (.int 1))], .tup [.str "x", .bin .sub (.int 0) (.idx (.var 7) (.int 0))]]), .set 9 (.call 6 [.bin .add (.bin .add (.var 8) (.var 4)) (.call 9 [.var 8])]), .ite (.cmp .ne (.bi .repr [.callK 11 [] [.var 5, .var 7]]) (.bi .repr [.var 9])) [.ret (.bl false)] [], .ite (.cmp .ne (.bi .repr [.call 11 [.call 11 [.var 5, .var 7], .tup [.bin .sub (.int 0) (.idx (.var 7) (.int 0)), .bin .sub (.int 0) (.idx (.var 7) (.int 1))]]]) (.bi .repr [.var 5])) [.ret (.bl false)] []]
def b2 : List Sm := [
  .set 1 (.comp 1 e2_0 (.nm 2) [.int 3] .nul [2]),
  .set 3 (.comp 0 e2_1 (.nm 4) [.var 1] .nul [4]),
  .ite (.cmp .ne (.bi .repr [.callK 7 [] [.idx (.var 3) (.int 0), .idx (.var 3) (.int 1)]]) (.bi .repr [.call 6 [.bin .add (.idx (.var 1) (.int 0)) (.idx (.var 1) (.int 1))]])) [.ret (.bl false)] [],
  .ite (.cmp .ne (.bi .repr [.call 7 [.call 7 [.idx (.var 3) (.int 0), .idx (.var 3) (.int 1)], .idx (.var 3) (.int 2)]]) (.bi .repr [.call 7 [.idx (.var 3) (.int 0), .call 7 [.idx (.var 3) (.int 1), .idx (.var 3) (.int 2)]]])) [.ret (.bl false)] [],
  .forr 4 (.tp [.nm 4, .nm 5]) [.var 1, .var 3] l2_2,
  .set 10 (.call 7 [.idx (.var 3) (.int 0), .idx (.var 3) (.int 1)]),
  .ret (.and_ (.cmp .eq (.bi .repr [.call 8 [.var 10]]) (.bi .repr [.call 7 [.call 8 [.idx (.var 3) (.int 1)], .call 8 [.idx (.var 3) (.int 0)]]])) (.cmp .eq (.bi .repr [.call 12 [.call 13 [.var 10]]]) (.bi .repr [.var 10])))]
def f2 : Fn := ⟨1, 11, b2⟩
/-! 3 _law_pot(script, place): 0=script 1=place 2=cell 3=own 4=small -/
def b3 : List Sm := [
  .set 2 (.ite (.cmp .lt (.var 1) (.bi .len [.var 0])) (.idx (.var 0) (.var 1)) (.bin .add (.bin .add (.bin .mod (.bi .int [.bi .sum [.sl (.var 0) .nul (.int 1)]]) (.int 1000003)) (.bin .mul (.int 1481) (.var 1))) (.int 1163))),
  .set 3 (.bin .mul (.bin .mod (.bi .int [.bi .abs [.var 2]]) (.bin .pow (.bin .pow (.int 10) (.int 60)) (.int 5))) (.bi .int [.cmp .ge (.bi .abs [.var 2]) (.bin .pow (.int 10) (.int 18))])),
  .set 4 (.bin .mod (.bi .int [.var 2]) (.int 2305843009213693951)),
  .ret (.shd [.var 3, .bin .mod (.bi .int [.bin .add (.bin .add (.bin .mul (.var 4) (.int 85985)) (.bin .mul (.bin .mul (.int 10117) (.var 1)) (.var 1))) (.int 623)]) (.int 2305843009213693921), .int 0])]
def f3 : Fn := ⟨2, 5, b3⟩
/-! 4 _law_ground_word(pot, many): 0=pot 1=many 2=found 3=lap -/
def l4_0 : List Sm := [.app 2 (.tup [.call 10 [.var 0, .lst [.str "x", .str "y", .str "t", .str "t"]], .call 10 [.var 0, .lst [.int 1, .neg (.int 1), .int 2, .neg (.int 2), .int 3, .neg (.int 4)]]])]
def b4 : List Sm := [
  .own 2 [],
  .forr 1 (.nm 3) [.var 1] l4_0,
  .ret (.bi .tupOf [.var 2])]
def f4 : Fn := ⟨2, 4, b4⟩
/-! 5 _law_take(pot, upto): 0=pot 1=upto 2=digit 3=prime 4=blend -/
def b5 : List Sm := [
  .ite (.cmp .gt (.idx (.var 0) (.int 0)) (.int 0)) [.set 2 (.bin .mod (.bi .int [.idx (.var 0) (.int 0)]) (.var 1)), .put (.var 0) (.int 0) (.bin .fdiv (.idx (.var 0) (.int 0)) (.var 1)), .ret (.var 2)] [],
  .put (.var 0) (.int 2) (.bin .add (.idx (.var 0) (.int 2)) (.int 1)),
  .set 3 (.idx (.lst [.int 2147483647, .int 2147483629, .int 2147483587, .int 2147483579, .int 2147483563]) (.bin .mod (.bi .int [.idx (.var 0) (.int 2)]) (.int 5))),
  .set 4 (.bin .mod (.bi .int [.bin .pow (.bi .int [.bin .add (.bin .add (.idx (.var 0) (.int 1)) (.bin .mul (.bin .mul (.int 100467) (.idx (.var 0) (.int 2))) (.idx (.var 0) (.int 2)))) (.int 1275)]) (.int 3)]) (.var 3)),
  .ret (.bin .mod (.bi .int [.bin .fdiv (.bin .mul (.var 4) (.bin .add (.bin .mod (.bi .int [.var 4]) (.int 11027)) (.bin .mul (.int 471) (.idx (.var 0) (.int 2))))) (.int 275)]) (.var 1))]
def f5 : Fn := ⟨2, 5, b5⟩
/-! 6 _law_form_by_letters(word): 0=word 1=moved 2=p 3=q 4=letter 5=power 6=many -/
def l6_0 : List Sm := [.ite (.cmp .eq (.var 4) (.str "x")) [.set 2 (.bin .add (.var 2) (.var 5))] [.ite (.cmp .eq (.var 4) (.str "y")) [.set 3 (.bin .add (.var 3) (.var 5))] [.ite (.and_ (.cmp .ne (.var 1) (.lst [])) (.cmp .eq (.idx (.idx (.var 1) (.neg (.int 1))) (.int 0)) (.tup [.bin .sub (.int 0) (.var 2), .bin .sub (.int 0) (.var 3)]))) [.set 6 (.bin .add (.idx (.pop 1) (.int 1)) (.var 5)), .ite (.cmp .ne (.var 6) (.int 0)) [.app 1 (.tup [.tup [.bin .sub (.int 0) (.var 2), .bin .sub (.int 0) (.var 3)], .var 6])] []] [.app 1 (.tup [.tup [.bin .sub (.int 0) (.var 2), .bin .sub (.int 0) (.var 3)], .var 5])]]]]
def b6 : List Sm := [
  .many [(1, true), (2, false), (3, false)] [.lst [], .int 0, .int 0],
  .forr 0 (.tp [.nm 4, .nm 5]) [.call 14 [.var 0]] l6_0,
  .ret (.tup [.bi .tupOf [.var 1], .var 2, .var 3])]
def f6 : Fn := ⟨1, 7, b6⟩
/-! 7 times(one, other): 0=one 1=other -/
def b7 : List Sm := [
  .ex (.call 15 [.var 0]),
  .ex (.call 15 [.var 1]),
  .ret (.call 16 [.var 0, .var 1])]
def f7 : Fn := ⟨2, 2, b7⟩
/-! 8 form_undone(form): 0=form -/
def b8 : List Sm := [
  .ex (.call 15 [.var 0]),
  .ret (.call 17 [.var 0])]
def f8 : Fn := ⟨1, 1, b8⟩
/-! 9 _law_undone(word): 0=word 1=letter 2=power -/
def e9_0 : Ex := .tup [.var 1, .bin .sub (.int 0) (.var 2)]
def b9 : List Sm := [
  .ret (.bi .tupOf [.comp 0 e9_0 (.tp [.nm 1, .nm 2]) [.rev (.var 0)] .nul [1, 2]])]
def f9 : Fn := ⟨1, 3, b9⟩
/-! 10 _law_of(pot, some): 0=pot 1=some -/
def b10 : List Sm := [
  .ret (.idx (.var 1) (.call 5 [.var 0, .bi .len [.var 1]]))]
def f10 : Fn := ⟨2, 2, b10⟩
/-! 11 moved_form(form, pair): 0=form 1=pair 2=first 3=second 4=one 5=power -/
def e11_0 : Ex := .tup [.tup [.bin .add (.idx (.var 4) (.int 0)) (.var 2), .bin .add (.idx (.var 4) (.int 1)) (.var 3)], .var 5]
def b11 : List Sm := [
  .ex (.call 15 [.var 0]),
  .ex (.call 18 [.var 1]),
  .tgt (.tp [.nm 2, .nm 3]) (.var 1),
  .ret (.tup [.bi .tupOf [.comp 0 e11_0 (.tp [.nm 4, .nm 5]) [.idx (.var 0) (.int 0)] .nul [4, 5]], .idx (.var 0) (.int 1), .idx (.var 0) (.neg (.int 1))])]
def f11 : Fn := ⟨2, 6, b11⟩
/-! 12 form(word): 0=word -/
def b12 : List Sm := [
  .ex (.call 19 [.var 0]),
  .ret (.call 20 [.var 0])]
def f12 : Fn := ⟨1, 1, b12⟩
/-! 13 form_word(form): 0=form -/
def b13 : List Sm := [
  .ex (.call 15 [.var 0]),
  .ret (.call 21 [.var 0])]
def f13 : Fn := ⟨1, 1, b13⟩
/-! 14 _law_singles_of(word): 0=word 1=found 2=letter 3=power -/
def l14_0 : List Sm := [.ext 1 (.bin .mul (.lst [.tup [.var 2, .ite (.cmp .gt (.var 3) (.int 0)) (.int 1) (.neg (.int 1))]]) (.bi .abs [.var 3]))]
def b14 : List Sm := [
  .own 1 [],
  .forr 0 (.tp [.nm 2, .nm 3]) [.var 0] l14_0,
  .ret (.mv 1)]
def f14 : Fn := ⟨1, 4, b14⟩
/-! 15 check_form(value): 0=value -/
def b15 : List Sm := [
  .ite (.not_ (.call 22 [.var 0])) [.bad] []]
def f15 : Fn := ⟨1, 1, b15⟩
/-! 16 times_of(one, other): 0=one 1=other 2=ts 3=first 4=second 5=later 6=pair 7=power -/
def e16_0 : Ex := .tup [.tup [.bin .sub (.idx (.var 6) (.int 0)) (.var 3), .bin .sub (.idx (.var 6) (.int 1)) (.var 4)], .var 7]
def b16 : List Sm := [
  .tgt (.tp [.nm 2, .nm 3, .nm 4]) (.var 0),
  .set 5 (.comp 0 e16_0 (.tp [.nm 6, .nm 7]) [.idx (.var 1) (.int 0)] .nul [6, 7]),
  .ret (.tup [.call 23 [.disp 1 [true, true] [.var 2, .var 5]], .bin .add (.var 3) (.idx (.var 1) (.int 1)), .bin .add (.var 4) (.idx (.var 1) (.neg (.int 1)))])]
def f16 : Fn := ⟨2, 8, b16⟩
/-! 17 undone_form(form): 0=form 1=ts 2=first 3=second 4=turned 5=pair 6=power -/
def e17_0 : Ex := .tup [.var 5, .neg (.var 6)]
def b17 : List Sm := [
  .tgt (.tp [.nm 1, .nm 2, .nm 3]) (.var 0),
  .set 4 (.bi .tupOf [.comp 0 e17_0 (.tp [.nm 5, .nm 6]) [.rev (.var 1)] .nul [5, 6]]),
  .ret (.call 16 [.tup [.tup [], .neg (.var 2), .neg (.var 3)], .tup [.var 4, .int 0, .int 0]])]
def f17 : Fn := ⟨1, 7, b17⟩
/-! 18 check_pair(value): 0=value -/
def b18 : List Sm := [
  .ite (.not_ (.call 24 [.var 0])) [.bad] []]
def f18 : Fn := ⟨1, 1, b18⟩
/-! 19 check_ground(word): 0=word 1=number 2=letter 3=power -/
def l19_0 : List Sm := [.ite (.cmp .nin (.var 2) (.gl 0)) [.bad] []]
def b19 : List Sm := [
  .ite (.not_ (.call 25 [.non, .var 0])) [.bad] [],
  .forr 3 (.tp [.nm 1, .tp [.nm 2, .nm 3]]) [.var 0] l19_0]
def f19 : Fn := ⟨1, 4, b19⟩
/-! 20 form_of(word): 0=word 1=ts 2=first 3=second 4=letter 5=power -/
def l20_0 : List Sm := [.ite (.cmp .eq (.var 4) (.gl 1)) [.aug 2 .add (.var 5)] [.ite (.cmp .eq (.var 4) (.gl 2)) [.aug 3 .add (.var 5)] [.app 1 (.tup [.tup [.neg (.var 2), .neg (.var 3)], .var 5])]]]
def b20 : List Sm := [
  .many [(1, true), (2, false), (3, false)] [.lst [], .int 0, .int 0],
  .forr 0 (.tp [.nm 4, .nm 5]) [.var 0] l20_0,
  .ret (.tup [.call 23 [.mv 1], .var 2, .var 3])]
def f20 : Fn := ⟨1, 6, b20⟩
/-! 21 form_word_of(form): 0=form 1=found 2=pair 3=power -/
def l21_0 : List Sm := [.ext 1 (.call 26 [.var 2, .var 3])]
def b21 : List Sm := [
  .own 1 [],
  .forr 0 (.tp [.nm 2, .nm 3]) [.idx (.var 0) (.int 0)] l21_0,
  .ret (.call 27 [.disp 1 [true, false, false] [.var 1, .tup [.gl 1, .idx (.var 0) (.int 1)], .tup [.gl 2, .idx (.var 0) (.neg (.int 1))]]])]
def f21 : Fn := ⟨1, 4, b21⟩
/-! 22 is_form(value): 0=value 1=one 2=other -/
def e22_0 : Ex := .call 30 [.var 1]
def e22_1 : Ex := .cmp .ne (.idx (.var 1) (.int 0)) (.idx (.var 2) (.int 0))
def b22 : List Sm := [
  .ite (.or_ (.not_ (.call 29 [.var 0, .gl 3, .gl 3])) (.or_ (.not_ (.call 28 [.idx (.var 0) (.int 1)])) (.not_ (.call 28 [.idx (.var 0) (.neg (.int 1))])))) [.ret (.bl false)] [],
  .ite (.or_ (.not_ (.bi .isTup [.idx (.var 0) (.int 0)])) (.not_ (.bi .all [.comp 0 e22_0 (.nm 1) [.idx (.var 0) (.int 0)] .nul [1]]))) [.ret (.bl false)] [],
  .ret (.bi .all [.comp 4 e22_1 (.tp [.nm 1, .nm 2]) [.idx (.var 0) (.int 0), .sl (.idx (.var 0) (.int 0)) (.int 1) .nul] .nul [1, 2]])]
def f22 : Fn := ⟨1, 3, b22⟩
/-! 23 put_together(ts): 0=ts 1=found 2=pair 3=power -/
def l23_0 : List Sm := [.ite (.and_ (.cmp .ne (.var 1) (.lst [])) (.cmp .eq (.idx (.idx (.var 1) (.neg (.int 1))) (.int 0)) (.var 2))) [.aug 3 .add (.idx (.pop 1) (.int 1))] [], .ite (.cmp .ne (.var 3) (.int 0)) [.app 1 (.tup [.var 2, .var 3])] []]
def b23 : List Sm := [
  .own 1 [],
  .forr 0 (.tp [.nm 2, .nm 3]) [.var 0] l23_0,
  .ret (.bi .tupOf [.var 1])]
def f23 : Fn := ⟨1, 4, b23⟩
/-! 24 is_pair(value): 0=value -/
def b24 : List Sm := [
  .ret (.call 31 [.var 0, .gl 4])]
def f24 : Fn := ⟨1, 1, b24⟩
/-! 25 is_word(machine, value): 0=machine 1=value 2=one -/
def e25_0 : Ex := .call 32 [.var 0, .var 2]
def b25 : List Sm := [
  .ret (.and_ (.bi .isTup [.var 1]) (.bi .all [.comp 0 e25_0 (.nm 2) [.var 1] .nul [2]]))]
def f25 : Fn := ⟨2, 3, b25⟩
/-! 26 moved_of(pair, power): 0=pair 1=power 2=first 3=second 4=found 5=one -/
def e26_0 : Ex := .var 5
def c26_1 : Ex := .cmp .ne (.idx (.var 5) (.int 1)) (.int 0)
def b26 : List Sm := [
  .tgt (.tp [.nm 2, .nm 3]) (.var 0),
  .set 4 (.lst [.tup [.gl 2, .neg (.var 3)], .tup [.gl 1, .neg (.var 2)], .tup [.gl 5, .var 1], .tup [.gl 1, .var 2], .tup [.gl 2, .var 3]]),
  .ret (.bi .tupOf [.comp 0 e26_0 (.nm 5) [.var 4] c26_1 [5]])]
def f26 : Fn := ⟨2, 6, b26⟩
/-! 27 freed_of(word): 0=word 1=found 2=letter 3=power -/
def l27_0 : List Sm := [.ite (.and_ (.cmp .ne (.var 3) (.int 0)) (.and_ (.cmp .ne (.var 1) (.lst [])) (.and_ (.cmp .eq (.idx (.idx (.var 1) (.neg (.int 1))) (.int 0)) (.var 2)) (.or_ (.cmp .inn (.var 2) (.gl 0)) (.cmp .eq (.idx (.idx (.var 1) (.neg (.int 1))) (.int 1)) (.neg (.var 3))))))) [.aug 3 .add (.idx (.pop 1) (.int 1))] [], .ite (.cmp .ne (.var 3) (.int 0)) [.app 1 (.tup [.var 2, .var 3])] []]
def b27 : List Sm := [
  .own 1 [],
  .forr 0 (.tp [.nm 2, .nm 3]) [.var 0] l27_0,
  .ret (.bi .tupOf [.var 1])]
def f27 : Fn := ⟨1, 4, b27⟩
/-! 28 is_whole(value): 0=value -/
def b28 : List Sm := [
  .ret (.and_ (.bi .isInt [.var 0]) (.not_ (.bi .isBool [.var 0])))]
def f28 : Fn := ⟨1, 1, b28⟩
/-! 29 is_tuple(value, least, most): 0=value 1=least 2=most -/
def b29 : List Sm := [
  .ret (.and_ (.bi .isTup [.var 0]) (.and_ (.cmp .le (.var 1) (.bi .len [.var 0])) (.or_ (.cmp .isN (.var 2) .non) (.cmp .le (.bi .len [.var 0]) (.var 2)))))]
def f29 : Fn := ⟨3, 3, b29⟩
/-! 30 is_moved(value): 0=value -/
def b30 : List Sm := [
  .ret (.and_ (.call 29 [.var 0, .gl 4, .gl 4]) (.and_ (.call 24 [.idx (.var 0) (.int 0)]) (.and_ (.call 28 [.idx (.var 0) (.int 1)]) (.cmp .ne (.idx (.var 0) (.int 1)) (.int 0)))))]
def f30 : Fn := ⟨1, 1, b30⟩
/-! 31 are_wholes(value, many): 0=value 1=many 2=one -/
def e31_0 : Ex := .call 28 [.var 2]
def b31 : List Sm := [
  .ret (.and_ (.call 29 [.var 0, .var 1, .var 1]) (.bi .all [.comp 0 e31_0 (.nm 2) [.var 0] .nul [2]]))]
def f31 : Fn := ⟨2, 3, b31⟩
/-! 32 is_syllable(machine, value): 0=machine 1=value -/
def b32 : List Sm := [
  .ret (.and_ (.call 29 [.var 1, .gl 4, .gl 4]) (.and_ (.call 34 [.var 0, .idx (.var 1) (.int 0)]) (.call 33 [.idx (.var 1) (.int 0), .idx (.var 1) (.int 1)])))]
def f32 : Fn := ⟨2, 2, b32⟩
/-! 33 is_power(letter, value): 0=letter 1=value -/
def b33 : List Sm := [
  .ite (.not_ (.call 28 [.var 1])) [.ret (.bl false)] [],
  .ret (.ite (.cmp .inn (.var 0) (.gl 0)) (.cmp .ne (.var 1) (.int 0)) (.cmp .inn (.var 1) (.gl 6)))]
def f33 : Fn := ⟨2, 2, b33⟩
/-! 34 is_letter(machine, value): 0=machine 1=value 2=number -/
def b34 : List Sm := [
  .ite (.not_ (.bi .isStr [.var 1])) [.ret (.bl false)] [],
  .ite (.or_ (.cmp .inn (.var 1) (.gl 0)) (.cmp .eq (.var 1) (.gl 7))) [.ret (.bl true)] [],
  .set 2 .bad,
  .ret (.and_ (.cmp .notN (.var 2) .non) (.or_ (.cmp .isN (.var 0) .non) (.cmp .lt (.var 2) (.bi .len [.bad]))))]
def f34 : Fn := ⟨2, 3, b34⟩
def gc : List Tr := [.tup [.str "x", .str "y", .str "t"], .str "x", .str "y", .int 3, .int 2, .str "t", .tup [.int 1, .int (-1)], .str "k"]
def fs : List Fn := [f0, f1, f2, f3, f4, f5, f6, f7, f8, f9, f10, f11, f12, f13, f14, f15, f16, f17, f18, f19, f20, f21, f22, f23, f24, f25, f26, f27, f28, f29, f30, f31, f32, f33, f34]
end G17
/-! The functions of the law: static facts. -/
namespace G17
open Ev PySem L2
open PyProof.Rows hiding St
def s0 : Stmt := PySem.Challenge.pw_emptywords_k18_whole_forms_put_together.main.body.getD 57 (.Pass ⟨0, 0, 0, 0⟩)
def i0 : FnI := ⟨"law", s0, ["script", "place"], ["script"]⟩
def s1 : Stmt := PySem.Challenge.pw_emptywords_k18_whole_forms_put_together.main.body.getD 51 (.Pass ⟨0, 0, 0, 0⟩)
def i1 : FnI := ⟨"_law_cells", s1, ["script", "limit"], ["script", "limit"]⟩
def s2 : Stmt := PySem.Challenge.pw_emptywords_k18_whole_forms_put_together.main.body.getD 56 (.Pass ⟨0, 0, 0, 0⟩)
def i2 : FnI := ⟨"_law_right", s2, ["pot", "words", "lap", "forms", "word", "told", "back", "pair", "mover", "due", "both"], ["pot"]⟩
def s3 : Stmt := PySem.Challenge.pw_emptywords_k18_whole_forms_put_together.main.body.getD 48 (.Pass ⟨0, 0, 0, 0⟩)
def i3 : FnI := ⟨"_law_pot", s3, ["script", "place", "cell", "own", "small"], ["script", "place"]⟩
def s4 : Stmt := PySem.Challenge.pw_emptywords_k18_whole_forms_put_together.main.body.getD 53 (.Pass ⟨0, 0, 0, 0⟩)
def i4 : FnI := ⟨"_law_ground_word", s4, ["pot", "many", "found", "lap"], ["pot", "many"]⟩
def s5 : Stmt := PySem.Challenge.pw_emptywords_k18_whole_forms_put_together.main.body.getD 49 (.Pass ⟨0, 0, 0, 0⟩)
def i5 : FnI := ⟨"_law_take", s5, ["pot", "upto", "digit", "prime", "blend"], ["pot", "upto"]⟩
def s6 : Stmt := PySem.Challenge.pw_emptywords_k18_whole_forms_put_together.main.body.getD 55 (.Pass ⟨0, 0, 0, 0⟩)
def i6 : FnI := ⟨"_law_form_by_letters", s6, ["word", "moved", "p", "q", "letter", "power", "many"], ["word"]⟩
def s7 : Stmt := PySem.Challenge.pw_emptywords_k18_whole_forms_put_together.main.body.getD 44 (.Pass ⟨0, 0, 0, 0⟩)
def i7 : FnI := ⟨"times", s7, ["one", "other"], ["one", "other"]⟩
def s8 : Stmt := PySem.Challenge.pw_emptywords_k18_whole_forms_put_together.main.body.getD 45 (.Pass ⟨0, 0, 0, 0⟩)
def i8 : FnI := ⟨"form_undone", s8, ["form"], ["form"]⟩
def s9 : Stmt := PySem.Challenge.pw_emptywords_k18_whole_forms_put_together.main.body.getD 52 (.Pass ⟨0, 0, 0, 0⟩)
def i9 : FnI := ⟨"_law_undone", s9, ["word", "letter", "power"], ["word"]⟩
def s10 : Stmt := PySem.Challenge.pw_emptywords_k18_whole_forms_put_together.main.body.getD 50 (.Pass ⟨0, 0, 0, 0⟩)
def i10 : FnI := ⟨"_law_of", s10, ["pot", "some"], ["pot", "some"]⟩
def s11 : Stmt := PySem.Challenge.pw_emptywords_k18_whole_forms_put_together.main.body.getD 46 (.Pass ⟨0, 0, 0, 0⟩)
def i11 : FnI := ⟨"moved_form", s11, ["form", "pair", "first", "second", "one", "power"], ["form", "pair"]⟩
def s12 : Stmt := PySem.Challenge.pw_emptywords_k18_whole_forms_put_together.main.body.getD 42 (.Pass ⟨0, 0, 0, 0⟩)
def i12 : FnI := ⟨"form", s12, ["word"], ["word"]⟩
def s13 : Stmt := PySem.Challenge.pw_emptywords_k18_whole_forms_put_together.main.body.getD 43 (.Pass ⟨0, 0, 0, 0⟩)
def i13 : FnI := ⟨"form_word", s13, ["form"], ["form"]⟩
def s14 : Stmt := PySem.Challenge.pw_emptywords_k18_whole_forms_put_together.main.body.getD 54 (.Pass ⟨0, 0, 0, 0⟩)
def i14 : FnI := ⟨"_law_singles_of", s14, ["word", "found", "letter", "power"], ["word"]⟩
def s15 : Stmt := PySem.Challenge.pw_emptywords_k18_whole_forms_put_together.main.body.getD 35 (.Pass ⟨0, 0, 0, 0⟩)
def i15 : FnI := ⟨"check_form", s15, ["value"], ["value"]⟩
def s16 : Stmt := PySem.Challenge.pw_emptywords_k18_whole_forms_put_together.main.body.getD 38 (.Pass ⟨0, 0, 0, 0⟩)
def i16 : FnI := ⟨"times_of", s16, ["one", "other", "ts", "first", "second", "later", "pair", "power"], ["one", "other"]⟩
def s17 : Stmt := PySem.Challenge.pw_emptywords_k18_whole_forms_put_together.main.body.getD 40 (.Pass ⟨0, 0, 0, 0⟩)
def i17 : FnI := ⟨"undone_form", s17, ["form", "ts", "first", "second", "turned", "pair", "power"], ["form"]⟩
def s18 : Stmt := PySem.Challenge.pw_emptywords_k18_whole_forms_put_together.main.body.getD 14 (.Pass ⟨0, 0, 0, 0⟩)
def i18 : FnI := ⟨"check_pair", s18, ["value"], ["value"]⟩
def s19 : Stmt := PySem.Challenge.pw_emptywords_k18_whole_forms_put_together.main.body.getD 36 (.Pass ⟨0, 0, 0, 0⟩)
def i19 : FnI := ⟨"check_ground", s19, ["word", "number", "letter", "power"], ["word"]⟩
def s20 : Stmt := PySem.Challenge.pw_emptywords_k18_whole_forms_put_together.main.body.getD 39 (.Pass ⟨0, 0, 0, 0⟩)
def i20 : FnI := ⟨"form_of", s20, ["word", "ts", "first", "second", "letter", "power"], ["word"]⟩
def s21 : Stmt := PySem.Challenge.pw_emptywords_k18_whole_forms_put_together.main.body.getD 41 (.Pass ⟨0, 0, 0, 0⟩)
def i21 : FnI := ⟨"form_word_of", s21, ["form", "found", "pair", "power"], ["form"]⟩
def s22 : Stmt := PySem.Challenge.pw_emptywords_k18_whole_forms_put_together.main.body.getD 34 (.Pass ⟨0, 0, 0, 0⟩)
def i22 : FnI := ⟨"is_form", s22, ["value", "one", "other"], ["value"]⟩
def s23 : Stmt := PySem.Challenge.pw_emptywords_k18_whole_forms_put_together.main.body.getD 37 (.Pass ⟨0, 0, 0, 0⟩)
def i23 : FnI := ⟨"put_together", s23, ["ts", "found", "pair", "power"], ["ts"]⟩
def s24 : Stmt := PySem.Challenge.pw_emptywords_k18_whole_forms_put_together.main.body.getD 13 (.Pass ⟨0, 0, 0, 0⟩)
def i24 : FnI := ⟨"is_pair", s24, ["value"], ["value"]⟩
def s25 : Stmt := PySem.Challenge.pw_emptywords_k18_whole_forms_put_together.main.body.getD 28 (.Pass ⟨0, 0, 0, 0⟩)
def i25 : FnI := ⟨"is_word", s25, ["machine", "value", "one"], ["machine", "value"]⟩
def s26 : Stmt := PySem.Challenge.pw_emptywords_k18_whole_forms_put_together.main.body.getD 30 (.Pass ⟨0, 0, 0, 0⟩)
def i26 : FnI := ⟨"moved_of", s26, ["pair", "power", "first", "second", "found", "one"], ["pair", "power"]⟩
def s27 : Stmt := PySem.Challenge.pw_emptywords_k18_whole_forms_put_together.main.body.getD 29 (.Pass ⟨0, 0, 0, 0⟩)
def i27 : FnI := ⟨"freed_of", s27, ["word", "found", "letter", "power"], ["word"]⟩
def s28 : Stmt := PySem.Challenge.pw_emptywords_k18_whole_forms_put_together.main.body.getD 10 (.Pass ⟨0, 0, 0, 0⟩)
def i28 : FnI := ⟨"is_whole", s28, ["value"], ["value"]⟩
def s29 : Stmt := PySem.Challenge.pw_emptywords_k18_whole_forms_put_together.main.body.getD 11 (.Pass ⟨0, 0, 0, 0⟩)
def i29 : FnI := ⟨"is_tuple", s29, ["value", "least", "most"], ["value", "least", "most"]⟩
def s30 : Stmt := PySem.Challenge.pw_emptywords_k18_whole_forms_put_together.main.body.getD 33 (.Pass ⟨0, 0, 0, 0⟩)
def i30 : FnI := ⟨"is_moved", s30, ["value"], ["value"]⟩
def s31 : Stmt := PySem.Challenge.pw_emptywords_k18_whole_forms_put_together.main.body.getD 12 (.Pass ⟨0, 0, 0, 0⟩)
def i31 : FnI := ⟨"are_wholes", s31, ["value", "many", "one"], ["value", "many"]⟩
def s32 : Stmt := PySem.Challenge.pw_emptywords_k18_whole_forms_put_together.main.body.getD 27 (.Pass ⟨0, 0, 0, 0⟩)
def i32 : FnI := ⟨"is_syllable", s32, ["machine", "value"], ["machine", "value"]⟩
def s33 : Stmt := PySem.Challenge.pw_emptywords_k18_whole_forms_put_together.main.body.getD 26 (.Pass ⟨0, 0, 0, 0⟩)
def i33 : FnI := ⟨"is_power", s33, ["letter", "value"], ["letter", "value"]⟩
def s34 : Stmt := PySem.Challenge.pw_emptywords_k18_whole_forms_put_together.main.body.getD 25 (.Pass ⟨0, 0, 0, 0⟩)
def i34 : FnI := ⟨"is_letter", s34, ["machine", "value", "number"], ["machine", "value"]⟩
def is : List FnI := [i0, i1, i2, i3, i4, i5, i6, i7, i8, i9, i10, i11, i12, i13, i14, i15, i16, i17, i18, i19, i20, i21, i22, i23, i24, i25, i26, i27, i28, i29, i30, i31, i32, i33, i34]
def D : Ds := ⟨is.map (·.name), ["GROUND", "X", "Y", "TRIPLE", "PAIR", "T", "SIGNS", "K"], ["all", "list", "range", "max", "min", "len", "repr", "zip", "int", "sum", "abs", "tuple", "enumerate", "isinstance", "bool", "str"], is.map (·.P)⟩
theorem S0 : FnS D i0 f0 := ⟨⟨rfl, rfl, rfl, by decide +kernel, rfl, by decide +kernel, by decide +kernel⟩, by decide +kernel, rfl, rfl, fun _ _ _ _ _ _ us ws hl => match us, ws, hl with | [], [_], _ => rfl | [_], [], _ => rfl⟩
theorem S1 : FnS D i1 f1 := ⟨⟨rfl, rfl, rfl, by decide +kernel, rfl, by decide +kernel, by decide +kernel⟩, by decide +kernel, rfl, rfl, fun _ _ _ _ _ _ us ws hl => match us, ws, hl with | [], [_, _], _ => rfl | [_], [_], _ => rfl | [_, _], [], _ => rfl⟩
theorem S2 : FnS D i2 f2 := ⟨⟨rfl, rfl, rfl, by decide +kernel, rfl, by decide +kernel, by decide +kernel⟩, by decide +kernel, rfl, rfl, fun _ _ _ _ _ _ us ws hl => match us, ws, hl with | [], [_], _ => rfl | [_], [], _ => rfl⟩
theorem S3 : FnS D i3 f3 := ⟨⟨rfl, rfl, rfl, by decide +kernel, rfl, by decide +kernel, by decide +kernel⟩, by decide +kernel, rfl, rfl, fun _ _ _ _ _ _ us ws hl => match us, ws, hl with | [], [_, _], _ => rfl | [_], [_], _ => rfl | [_, _], [], _ => rfl⟩
theorem S4 : FnS D i4 f4 := ⟨⟨rfl, rfl, rfl, by decide +kernel, rfl, by decide +kernel, by decide +kernel⟩, by decide +kernel, rfl, rfl, fun _ _ _ _ _ _ us ws hl => match us, ws, hl with | [], [_, _], _ => rfl | [_], [_], _ => rfl | [_, _], [], _ => rfl⟩
theorem S5 : FnS D i5 f5 := ⟨⟨rfl, rfl, rfl, by decide +kernel, rfl, by decide +kernel, by decide +kernel⟩, by decide +kernel, rfl, rfl, fun _ _ _ _ _ _ us ws hl => match us, ws, hl with | [], [_, _], _ => rfl | [_], [_], _ => rfl | [_, _], [], _ => rfl⟩
theorem S6 : FnS D i6 f6 := ⟨⟨rfl, rfl, rfl, by decide +kernel, rfl, by decide +kernel, by decide +kernel⟩, by decide +kernel, rfl, rfl, fun _ _ _ _ _ _ us ws hl => match us, ws, hl with | [], [_], _ => rfl | [_], [], _ => rfl⟩
theorem S7 : FnS D i7 f7 := ⟨⟨rfl, rfl, rfl, by decide +kernel, rfl, by decide +kernel, by decide +kernel⟩, by decide +kernel, rfl, rfl, fun _ _ _ _ _ _ us ws hl => match us, ws, hl with | [], [_, _], _ => rfl | [_], [_], _ => rfl | [_, _], [], _ => rfl⟩
theorem S8 : FnS D i8 f8 := ⟨⟨rfl, rfl, rfl, by decide +kernel, rfl, by decide +kernel, by decide +kernel⟩, by decide +kernel, rfl, rfl, fun _ _ _ _ _ _ us ws hl => match us, ws, hl with | [], [_], _ => rfl | [_], [], _ => rfl⟩
theorem S9 : FnS D i9 f9 := ⟨⟨rfl, rfl, rfl, by decide +kernel, rfl, by decide +kernel, by decide +kernel⟩, by decide +kernel, rfl, rfl, fun _ _ _ _ _ _ us ws hl => match us, ws, hl with | [], [_], _ => rfl | [_], [], _ => rfl⟩
theorem S10 : FnS D i10 f10 := ⟨⟨rfl, rfl, rfl, by decide +kernel, rfl, by decide +kernel, by decide +kernel⟩, by decide +kernel, rfl, rfl, fun _ _ _ _ _ _ us ws hl => match us, ws, hl with | [], [_, _], _ => rfl | [_], [_], _ => rfl | [_, _], [], _ => rfl⟩
theorem S11 : FnS D i11 f11 := ⟨⟨rfl, rfl, rfl, by decide +kernel, rfl, by decide +kernel, by decide +kernel⟩, by decide +kernel, rfl, rfl, fun _ _ _ _ _ _ us ws hl => match us, ws, hl with | [], [_, _], _ => rfl | [_], [_], _ => rfl | [_, _], [], _ => rfl⟩
theorem S12 : FnS D i12 f12 := ⟨⟨rfl, rfl, rfl, by decide +kernel, rfl, by decide +kernel, by decide +kernel⟩, by decide +kernel, rfl, rfl, fun _ _ _ _ _ _ us ws hl => match us, ws, hl with | [], [_], _ => rfl | [_], [], _ => rfl⟩
theorem S13 : FnS D i13 f13 := ⟨⟨rfl, rfl, rfl, by decide +kernel, rfl, by decide +kernel, by decide +kernel⟩, by decide +kernel, rfl, rfl, fun _ _ _ _ _ _ us ws hl => match us, ws, hl with | [], [_], _ => rfl | [_], [], _ => rfl⟩
theorem S14 : FnS D i14 f14 := ⟨⟨rfl, rfl, rfl, by decide +kernel, rfl, by decide +kernel, by decide +kernel⟩, by decide +kernel, rfl, rfl, fun _ _ _ _ _ _ us ws hl => match us, ws, hl with | [], [_], _ => rfl | [_], [], _ => rfl⟩
theorem S15 : FnS D i15 f15 := ⟨⟨rfl, rfl, rfl, by decide +kernel, rfl, by decide +kernel, by decide +kernel⟩, by decide +kernel, rfl, rfl, fun _ _ _ _ _ _ us ws hl => match us, ws, hl with | [], [_], _ => rfl | [_], [], _ => rfl⟩
theorem S16 : FnS D i16 f16 := ⟨⟨rfl, rfl, rfl, by decide +kernel, rfl, by decide +kernel, by decide +kernel⟩, by decide +kernel, rfl, rfl, fun _ _ _ _ _ _ us ws hl => match us, ws, hl with | [], [_, _], _ => rfl | [_], [_], _ => rfl | [_, _], [], _ => rfl⟩
theorem S17 : FnS D i17 f17 := ⟨⟨rfl, rfl, rfl, by decide +kernel, rfl, by decide +kernel, by decide +kernel⟩, by decide +kernel, rfl, rfl, fun _ _ _ _ _ _ us ws hl => match us, ws, hl with | [], [_], _ => rfl | [_], [], _ => rfl⟩
theorem S18 : FnS D i18 f18 := ⟨⟨rfl, rfl, rfl, by decide +kernel, rfl, by decide +kernel, by decide +kernel⟩, by decide +kernel, rfl, rfl, fun _ _ _ _ _ _ us ws hl => match us, ws, hl with | [], [_], _ => rfl | [_], [], _ => rfl⟩
theorem S19 : FnS D i19 f19 := ⟨⟨rfl, rfl, rfl, by decide +kernel, rfl, by decide +kernel, by decide +kernel⟩, by decide +kernel, rfl, rfl, fun _ _ _ _ _ _ us ws hl => match us, ws, hl with | [], [_], _ => rfl | [_], [], _ => rfl⟩
theorem S20 : FnS D i20 f20 := ⟨⟨rfl, rfl, rfl, by decide +kernel, rfl, by decide +kernel, by decide +kernel⟩, by decide +kernel, rfl, rfl, fun _ _ _ _ _ _ us ws hl => match us, ws, hl with | [], [_], _ => rfl | [_], [], _ => rfl⟩
theorem S21 : FnS D i21 f21 := ⟨⟨rfl, rfl, rfl, by decide +kernel, rfl, by decide +kernel, by decide +kernel⟩, by decide +kernel, rfl, rfl, fun _ _ _ _ _ _ us ws hl => match us, ws, hl with | [], [_], _ => rfl | [_], [], _ => rfl⟩
theorem S22 : FnS D i22 f22 := ⟨⟨rfl, rfl, rfl, by decide +kernel, rfl, by decide +kernel, by decide +kernel⟩, by decide +kernel, rfl, rfl, fun _ _ _ _ _ _ us ws hl => match us, ws, hl with | [], [_], _ => rfl | [_], [], _ => rfl⟩
theorem S23 : FnS D i23 f23 := ⟨⟨rfl, rfl, rfl, by decide +kernel, rfl, by decide +kernel, by decide +kernel⟩, by decide +kernel, rfl, rfl, fun _ _ _ _ _ _ us ws hl => match us, ws, hl with | [], [_], _ => rfl | [_], [], _ => rfl⟩
theorem S24 : FnS D i24 f24 := ⟨⟨rfl, rfl, rfl, by decide +kernel, rfl, by decide +kernel, by decide +kernel⟩, by decide +kernel, rfl, rfl, fun _ _ _ _ _ _ us ws hl => match us, ws, hl with | [], [_], _ => rfl | [_], [], _ => rfl⟩
theorem S25 : FnS D i25 f25 := ⟨⟨rfl, rfl, rfl, by decide +kernel, rfl, by decide +kernel, by decide +kernel⟩, by decide +kernel, rfl, rfl, fun _ _ _ _ _ _ us ws hl => match us, ws, hl with | [], [_, _], _ => rfl | [_], [_], _ => rfl | [_, _], [], _ => rfl⟩
theorem S26 : FnS D i26 f26 := ⟨⟨rfl, rfl, rfl, by decide +kernel, rfl, by decide +kernel, by decide +kernel⟩, by decide +kernel, rfl, rfl, fun _ _ _ _ _ _ us ws hl => match us, ws, hl with | [], [_, _], _ => rfl | [_], [_], _ => rfl | [_, _], [], _ => rfl⟩
theorem S27 : FnS D i27 f27 := ⟨⟨rfl, rfl, rfl, by decide +kernel, rfl, by decide +kernel, by decide +kernel⟩, by decide +kernel, rfl, rfl, fun _ _ _ _ _ _ us ws hl => match us, ws, hl with | [], [_], _ => rfl | [_], [], _ => rfl⟩
theorem S28 : FnS D i28 f28 := ⟨⟨rfl, rfl, rfl, by decide +kernel, rfl, by decide +kernel, by decide +kernel⟩, by decide +kernel, rfl, rfl, fun _ _ _ _ _ _ us ws hl => match us, ws, hl with | [], [_], _ => rfl | [_], [], _ => rfl⟩
theorem S29 : FnS D i29 f29 := ⟨⟨rfl, rfl, rfl, by decide +kernel, rfl, by decide +kernel, by decide +kernel⟩, by decide +kernel, rfl, rfl, fun _ _ _ _ _ _ us ws hl => match us, ws, hl with | [], [_, _, _], _ => rfl | [_], [_, _], _ => rfl | [_, _], [_], _ => rfl | [_, _, _], [], _ => rfl⟩
theorem S30 : FnS D i30 f30 := ⟨⟨rfl, rfl, rfl, by decide +kernel, rfl, by decide +kernel, by decide +kernel⟩, by decide +kernel, rfl, rfl, fun _ _ _ _ _ _ us ws hl => match us, ws, hl with | [], [_], _ => rfl | [_], [], _ => rfl⟩
theorem S31 : FnS D i31 f31 := ⟨⟨rfl, rfl, rfl, by decide +kernel, rfl, by decide +kernel, by decide +kernel⟩, by decide +kernel, rfl, rfl, fun _ _ _ _ _ _ us ws hl => match us, ws, hl with | [], [_, _], _ => rfl | [_], [_], _ => rfl | [_, _], [], _ => rfl⟩
theorem S32 : FnS D i32 f32 := ⟨⟨rfl, rfl, rfl, by decide +kernel, rfl, by decide +kernel, by decide +kernel⟩, by decide +kernel, rfl, rfl, fun _ _ _ _ _ _ us ws hl => match us, ws, hl with | [], [_, _], _ => rfl | [_], [_], _ => rfl | [_, _], [], _ => rfl⟩
theorem S33 : FnS D i33 f33 := ⟨⟨rfl, rfl, rfl, by decide +kernel, rfl, by decide +kernel, by decide +kernel⟩, by decide +kernel, rfl, rfl, fun _ _ _ _ _ _ us ws hl => match us, ws, hl with | [], [_, _], _ => rfl | [_], [_], _ => rfl | [_, _], [], _ => rfl⟩
theorem S34 : FnS D i34 f34 := ⟨⟨rfl, rfl, rfl, by decide +kernel, rfl, by decide +kernel, by decide +kernel⟩, by decide +kernel, rfl, rfl, fun _ _ _ _ _ _ us ws hl => match us, ws, hl with | [], [_, _], _ => rfl | [_], [_], _ => rfl | [_, _], [], _ => rfl⟩
theorem all : ∀ (f : Nat) I fn, is[f]? = some I → fs[f]? = some fn → FnS D I fn := AllS.get (
  .cons S0 <| .cons S1 <| .cons S2 <| .cons S3 <| .cons S4 <| .cons S5 <| .cons S6 <| .cons S7 <| .cons S8 <| .cons S9 <| .cons S10 <| .cons S11 <| .cons S12 <| .cons S13 <| .cons S14 <| .cons S15 <| .cons S16 <| .cons S17 <| .cons S18 <| .cons S19 <| .cons S20 <| .cons S21 <| .cons S22 <| .cons S23 <| .cons S24 <| .cons S25 <| .cons S26 <| .cons S27 <| .cons S28 <| .cons S29 <| .cons S30 <| .cons S31 <| .cons S32 <| .cons S33 <| .cons S34 <| .nil)
end G17
/-! Ground words and their forms, in plain Lean. -/
namespace G17
open Ev PySem
inductive Le | x | y | t
deriving DecidableEq
abbrev W := List (Le × Int)
abbrev It := (Int × Int) × Int
abbrev Fo := List It × Int × Int
def Le.s : Le → Str
  | .x => "x"
  | .y => "y"
  | .t => "t"
theorem Le.inj (a b : Le) : (a.s = b.s) = (a = b) := by
  cases a <;> cases b <;> simp [Le.s] <;> decide +kernel
def push (p : Int × Int) (k : Int) : List It → List It
  | [] => if k = 0 then [] else [(p, k)]
  | e :: r => if e.1 = p then (if k + e.2 = 0 then r else (p, k + e.2) :: r) else if k = 0 then e :: r else (p, k) :: e :: r
def step : Fo → Le × Int → Fo
  | (s, a, b), (.x, k) => (s, a + k, b)
  | (s, a, b), (.y, k) => (s, a, b + k)
  | (s, a, b), (.t, k) => (push (-a, -b) k s, a, b)
def run (f : Fo) (w : W) : Fo := w.foldl step f
theorem run_cons {f : Fo} {e : Le × Int} {w : W} : run f (e :: w) = run (step f e) w := rfl
theorem run_append {f : Fo} {v w : W} : run f (v ++ w) = run (run f v) w := List.foldl_append ..
def Red : List It → Prop
  | [] => True
  | e :: r => e.2 ≠ 0 ∧ (∀ f ∈ r.head?, e.1 ≠ f.1) ∧ Red r
theorem push_nil {p : Int × Int} {k : Int} : push p k [] = if k = 0 then [] else [(p, k)] := rfl
theorem push_cons {p : Int × Int} {k : Int} {e : It} {r : List It} : push p k (e :: r) = if e.1 = p then (if k + e.2 = 0 then r else (p, k + e.2) :: r) else if k = 0 then e :: r else (p, k) :: e :: r := rfl
theorem push_red {p : Int × Int} {k : Int} {s : List It} (h : Red s) : Red (push p k s) := by
  cases s with
  | nil =>
    rw [push_nil]
    split
    · exact h
    · exact ⟨by assumption, by simp, trivial⟩
  | cons e r =>
    obtain ⟨h1, h2, h3⟩ := h
    rw [push_cons]
    split
    · rename_i he
      split
      · exact h3
      · refine ⟨by assumption, fun f hf => ?_, h3⟩
        rw [← he]
        exact h2 f hf
    · rename_i he
      split
      · exact ⟨h1, h2, h3⟩
      · refine ⟨by assumption, fun f hf => ?_, h1, h2, h3⟩
        simp at hf
        subst hf
        exact fun z => he z.symm
theorem push_zero {p : Int × Int} {s : List It} (h : Red s) : push p 0 s = s := by
  cases s with
  | nil => rfl
  | cons e r =>
    obtain ⟨⟨q, j⟩, rfl⟩ : ∃ z : It, e = z := ⟨e, rfl⟩
    rw [push_cons]
    split
    · rename_i he
      have h1 := h.1
      rw [if_neg (by simpa using h1)]
      simp at he ⊢
      exact he.symm
    · rfl
theorem push_push {p : Int × Int} {k j : Int} {s : List It} (h : Red s) : push p j (push p k s) = push p (k + j) s := by
  cases s with
  | nil =>
    rw [push_nil, push_nil]
    by_cases hk : k = 0
    · subst hk
      rw [if_pos rfl, push_nil, Int.zero_add]
    · rw [if_neg hk, push_cons, if_pos rfl, Int.add_comm j k]
  | cons e r =>
    obtain ⟨h1, h2, h3⟩ := h
    by_cases he : e.1 = p
    · have e1 : ∀ i, push p i (e :: r) = if i + e.2 = 0 then r else (p, i + e.2) :: r := fun i => by rw [push_cons, if_pos he]
      rw [e1, e1]
      by_cases hz : k + e.2 = 0
      · rw [if_pos hz]
        have hr : push p j r = if j = 0 then r else (p, j) :: r := by
          cases r with
          | nil => rfl
          | cons f q =>
            have := h2 f (by simp)
            rw [push_cons, if_neg (by rw [← he]; exact fun z => this z.symm)]
        rw [hr]
        by_cases hj : j = 0
        · rw [if_pos hj, if_pos (by omega)]
        · rw [if_neg hj, if_neg (by omega)]
          congr 2
          omega
      · rw [if_neg hz]
        rw [push_cons, if_pos rfl]
        dsimp only
        by_cases hj : j + (k + e.2) = 0
        · rw [if_pos hj, if_pos (by omega)]
        · rw [if_neg hj, if_neg (by omega)]
          congr 2
          omega
    · have e1 : ∀ i, push p i (e :: r) = if i = 0 then e :: r else (p, i) :: e :: r := fun i => by rw [push_cons, if_neg he]
      rw [e1 k]
      by_cases hk : k = 0
      · rw [if_pos hk, hk, Int.zero_add]
      · rw [if_neg hk, e1]
        rw [push_cons, if_pos rfl, Int.add_comm j k]
theorem step_red {f : Fo} {e : Le × Int} (h : Red f.1) : Red (step f e).1 := by
  obtain ⟨s, a, b⟩ := f
  obtain ⟨l, k⟩ := e
  cases l
  · exact h
  · exact h
  · exact push_red h
theorem run_red : ∀ {w : W} {f : Fo}, Red f.1 → Red (run f w).1
  | [], _, h => h
  | e :: w, f, h => run_red (w := w) (step_red h)
theorem step_zero {f : Fo} {l : Le} (h : Red f.1) : step f (l, 0) = f := by
  obtain ⟨s, a, b⟩ := f
  cases l
  · simp [step]
  · simp [step]
  · simp only [step, push_zero h]
theorem step_step {f : Fo} {l : Le} {k j : Int} (h : Red f.1) : step (step f (l, k)) (l, j) = step f (l, k + j) := by
  obtain ⟨s, a, b⟩ := f
  cases l
  · simp [step, Int.add_assoc]
  · simp [step, Int.add_assoc]
  · simp only [step]
    rw [push_push h]
theorem step_comm {f : Fo} {k j : Int} : step (step f (.x, k)) (.y, j) = step (step f (.y, j)) (.x, k) := rfl
/-! ### letter by letter -/
def sgn (k : Int) : Int := if 0 < k then 1 else -1
def singles (w : W) : W := w.flatMap fun e => List.replicate e.2.natAbs (e.1, sgn e.2)
theorem run_rep {l : Le} {i : Int} : ∀ (n : Nat) {f : Fo}, Red f.1 → run f (List.replicate n (l, i)) = step f (l, n * i)
  | 0, f, h => by
    rw [List.replicate_zero]
    have : ((0 : Nat) : Int) * i = 0 := by simp
    rw [this, step_zero h]
    rfl
  | n + 1, f, h => by
    rw [List.replicate_succ, run_cons, run_rep n (step_red h), step_step h]
    congr 2
    have : ((n + 1 : Nat) : Int) * i = n * i + i := by push_cast; rw [Int.add_mul]; simp
    omega
theorem run_singles : ∀ {w : W} {f : Fo}, Red f.1 → run f (singles w) = run f w
  | [], f, h => rfl
  | e :: w, f, h => by
    show run f (List.replicate e.2.natAbs (e.1, sgn e.2) ++ singles w) = _
    rw [run_append, run_rep _ h]
    have e1 : ((e.2.natAbs : Nat) : Int) * sgn e.2 = e.2 := by
      unfold sgn
      split <;> omega
    rw [e1]
    exact run_singles (w := w) (step_red h)
/-! ### bent words -/
theorem bent_xy {f : Fo} {p q : Int} : run f [(.x, p), (.y, q), (.x, -p), (.y, -q)] = f := by
  obtain ⟨s, a, b⟩ := f
  simp only [run, List.foldl, step]
  congr 2 <;> omega
theorem bent_yx {f : Fo} {p q : Int} : run f [(.y, q), (.x, p), (.y, -q), (.x, -p)] = f := by
  obtain ⟨s, a, b⟩ := f
  simp only [run, List.foldl, step]
  congr 2 <;> omega
theorem bent_l {f : Fo} {l : Le} {p : Int} (h : Red f.1) : run f [(l, p), (l, -p)] = f := by
  show step (step f (l, p)) (l, -p) = f
  rw [step_step h]
  have : p + -p = 0 := by omega
  rw [this, step_zero h]
/-! ### freed words -/
def lpush (e : Le × Int) : W → W
  | [] => if e.2 = 0 then [] else [e]
  | f :: r => if f.1 = e.1 then (if e.2 + f.2 = 0 then r else (e.1, e.2 + f.2) :: r) else if e.2 = 0 then f :: r else e :: f :: r
theorem lpush_nil {e : Le × Int} : lpush e [] = if e.2 = 0 then [] else [e] := rfl
theorem lpush_cons {e f : Le × Int} {r : W} : lpush e (f :: r) = if f.1 = e.1 then (if e.2 + f.2 = 0 then r else (e.1, e.2 + f.2) :: r) else if e.2 = 0 then f :: r else e :: f :: r := rfl
theorem run_lpush {f : Fo} (h : Red f.1) {e : Le × Int} : ∀ {w : W}, run f (lpush e w).reverse = step (run f w.reverse) e
  | [] => by
    rw [lpush_nil]
    split
    · rename_i hz
      obtain ⟨l, k⟩ := e
      simp at hz
      subst hz
      rw [show run f ([] : W).reverse = f from rfl, step_zero h]
    · rfl
  | g :: r => by
    obtain ⟨l, k⟩ := e
    obtain ⟨l', j⟩ := g
    have hr : Red (run f r.reverse).1 := run_red h
    have e1 : run f ((l', j) :: r).reverse = step (run f r.reverse) (l', j) := by rw [List.reverse_cons, run_append]; rfl
    rw [e1]
    rw [lpush_cons]
    dsimp only
    split
    · rename_i hl
      subst hl
      rw [step_step hr]
      split
      · rename_i hz
        rw [show j + k = 0 by omega, step_zero hr]
      · rw [List.reverse_cons, run_append, Int.add_comm k j]
        rfl
    · split
      · rename_i hz
        subst hz
        rw [step_zero (step_red hr)]
        exact e1
      · rw [List.reverse_cons, run_append, e1]
        rfl
def freed (w : W) : W := w.foldl (fun s e => lpush e s) []
theorem run_freed {f : Fo} (h : Red f.1) : ∀ {w v : W}, run f (w.foldl (fun s e => lpush e s) v).reverse = run (run f v.reverse) w
  | [], v => rfl
  | e :: w, v => by
    rw [List.foldl_cons, run_freed h (w := w), run_lpush h]
    rfl
theorem lpush_nz {e : Le × Int} : ∀ {w : W}, (∀ f ∈ w, f.2 ≠ 0) → ∀ f ∈ lpush e w, f.2 ≠ 0
  | [], h => by
    rw [lpush_nil]
    split
    · simp
    · simpa
  | g :: r, h => by
    rw [lpush_cons]
    split
    · split
      · exact fun f hf => h f (by simp [hf])
      · rename_i hz
        intro f hf
        rcases List.mem_cons.mp hf with rfl | hf
        · exact hz
        · exact h f (by simp [hf])
    · split
      · exact h
      · rename_i hz
        intro f hf
        rcases List.mem_cons.mp hf with rfl | hf
        · exact hz
        · exact h f hf
theorem freed_nz : ∀ {w v : W}, (∀ f ∈ v, f.2 ≠ 0) → ∀ f ∈ w.foldl (fun s e => lpush e s) v, f.2 ≠ 0
  | [], v, h => h
  | e :: w, v, h => by
    rw [List.foldl_cons]
    exact freed_nz (w := w) (lpush_nz h)
/-! ### the word of a form -/
def moved (e : It) : W := [(.y, -e.1.2), (.x, -e.1.1), (.t, e.2), (.x, e.1.1), (.y, e.1.2)].filter fun e => decide (e.2 ≠ 0)
theorem run_filter {f : Fo} : ∀ {w : W} {f : Fo}, Red f.1 → run f (w.filter fun e => decide (e.2 ≠ 0)) = run f w
  | [], f, h => rfl
  | e :: w, f, h => by
    obtain ⟨l, k⟩ := e
    by_cases hz : k = 0
    · subst hz
      rw [List.filter_cons_of_neg (by simp), run_filter (f := f) h, run_cons, step_zero h]
    · rw [List.filter_cons_of_pos (by simpa using hz), run_cons, run_cons]
      exact run_filter (f := f) (step_red h)
theorem run_moved {s : List It} {e : It} (h : Red s) : run (s, 0, 0) (moved e) = (push e.1 e.2 s, 0, 0) := by
  unfold moved
  rw [run_filter (f := (s, 0, 0)) h]
  obtain ⟨⟨a, b⟩, k⟩ := e
  simp only [run, List.foldl, step]
  have e1 : ((-(0 + -a), -(0 + -b)) : Int × Int) = (a, b) := by congr 1 <;> omega
  rw [e1]
  congr 2 <;> omega
def backW (f : Fo) : W := f.1.reverse.flatMap moved ++ [(.x, f.2.1), (.y, f.2.2)]
theorem run_moveds : ∀ (s s0 : List It), Red s0 → Red (s.reverse ++ s0) → run (s0, 0, 0) (s.flatMap moved) = (s.reverse ++ s0, 0, 0)
  | [], s0, h0, h => rfl
  | e :: r, s0, h0, h => by
    rw [List.flatMap_cons, run_append, run_moved h0]
    rw [List.reverse_cons, List.append_assoc] at h ⊢
    have red2 : ∀ {a b : List It}, Red (a ++ b) → Red b := by
      intro a b
      induction a with
      | nil => exact id
      | cons x a ih => exact fun z => ih z.2.2
    have h1 : Red (e :: s0) := red2 h
    have e1 : push e.1 e.2 s0 = e :: s0 := by
      cases s0 with
      | nil => rw [push_nil, if_neg h1.1]
      | cons g q => rw [push_cons, if_neg (fun z => h1.2.1 g (by simp) z.symm), if_neg h1.1]
    rw [e1]
    exact run_moveds r (e :: s0) h1 h
theorem run_back {f : Fo} (h : Red f.1) : run ([], 0, 0) (backW f) = f := by
  obtain ⟨s, a, b⟩ := f
  unfold backW
  rw [run_append, run_moveds s.reverse [] trivial (by simpa using h)]
  simp [run, step]
theorem run_freed_back {f : Fo} (h : Red f.1) : run ([], 0, 0) (freed (backW f)).reverse = f := by
  unfold freed
  rw [run_freed (f := ([], 0, 0)) trivial]
  exact run_back h
/-! ### as trees -/
def trS (e : Le × Int) : Tr := .tup [.str e.1.s, .int e.2]
def trP (e : It) : Tr := .tup [.tup [.int e.1.1, .int e.1.2], .int e.2]
def trW (w : W) : Tr := .tup (w.map trS)
def trF (f : Fo) : Tr := .tup [.tup (f.1.reverse.map trP), .int f.2.1, .int f.2.2]
theorem gdS (e : Le × Int) : gd 1 (trS e) = true := by
  obtain ⟨l, k⟩ := e
  cases l <;> simp [trS, gd, gds, Le.s] <;> decide +kernel
theorem gdP (e : It) : gd 2 (trP e) = true := by simp [trP, gd, gds]
theorem gdsS (w : W) : gds 1 (w.map trS) = true := gds_iff.mpr fun t ht => by
  obtain ⟨e, _, rfl⟩ := List.mem_map.mp ht
  exact gdS e
theorem gdsP (w : List It) : gds 2 (w.map trP) = true := gds_iff.mpr fun t ht => by
  obtain ⟨e, _, rfl⟩ := List.mem_map.mp ht
  exact gdP e
theorem nilS (w : W) : eqT (.lst (w.map trS)) (.lst []) = some w.isEmpty := by rw [eqD_nil (gdsS w) (by omega)]; cases w <;> rfl
theorem nilP (w : List It) : eqT (.lst (w.map trP)) (.lst []) = some w.isEmpty := by rw [eqD_nil (gdsP w) (by omega)]; cases w <;> rfl
end G17
namespace G17
open Ev PySem L2
structure Pot (m : List Ob) (n k : Nat) : Prop where
  ex : ∃ o s c : Int, m[n]? = some (.lst [.int o, .int s, .int c]) ∧ 0 ≤ s ∧ s < 2 ^ 61 ∧ 0 ≤ c ∧ c ≤ k
theorem take_spec {d n k : Nat} {m : List Ob} {u : Int} (h : Pot m n k) (hk : k < 1073741824) (hu : 0 < u) (hu2 : u < 1152921504606846976) :
    ∃ (j : Int) (m' : List Ob), callF gc 64 fs (d + 1) 5 [.ob n, .int u] m = some (.int j, m') ∧ 0 ≤ j ∧ j < u ∧ Pot m' n (k + 1) := by
  obtain ⟨o, s, c, hm, hs, hs2, hc, hc2⟩ := h.ex
  rw [callS (fn := f5) rfl rfl]
  by_cases ho : 0 < o
  · refine ⟨o % u, m.set n (.lst [.int (o / u), .int s, .int c]), ?_, Int.emod_nonneg _ (by omega), Int.emod_lt_of_pos _ hu, ⟨_, _, _, set_get hm, hs, hs2, hc, by omega⟩⟩
    simp [Rs.bind_ok, Rs.bind_no, Rs.of_some, q_var, q_mv, q_gl, q_int, q_str, q_bl, q_non, q_tup, q_lst, q_shd, q_disp, q_bin, q_neg, q_cmp, q_chain, q_and, q_or, q_not, q_notF, q_ite, q_idx, q_sl, q_rev, q_call, q_callK, q_bi, q_pop, q_comp, q_nil, q_cons, q_snil, q_scons, t_var, t_gl, t_bl, t_cmp, t_chain, t_idx, t_call, t_callK, t_bi, t_bin, s_set, s_own, s_ownOf, s_many, s_tgt, s_aug, s_put, s_app, s_ext, s_ex, s_ret, s_retN, s_ite, s_for, s_whl, s_brk, s_cont, s_pass, s_nil, s_cons, Ev.kVar, Ev.kMv, Ev.kTup, Ev.kLst, Ev.kShd, Ev.kBin2, Ev.kBin1, Ev.kNeg, Ev.kCmp2, Ev.kCmp1, Ev.kChain3, Ev.kChain2', Ev.kChain2, Ev.kChain1, Ev.kAnd, Ev.kOr, Ev.kNot, Ev.kIte, Ev.kIdxM, Ev.kIdx3, Ev.kIdx2, Ev.kIdx1, Ev.kSl3, Ev.kO, Ev.kSl2, Ev.kSl1, Ev.kRev, Ev.kRes, Ev.kCall, Ev.kCallK2, Ev.kCallK1, Ev.kBi, Ev.kPop2, Ev.kPop, Ev.kComp3, Ev.kCond, Ev.kElt, Ev.kComp2, Ev.kComp, Ev.kEs2, Ev.kEs1, Ev.kSt2, Ev.kSt3, Ev.kSt1, Ev.kDisp, Ev.kSet, Ev.kOwn, Ev.kOwnOf2, Ev.kOwnOf, Ev.kEnv, Ev.kMany, Ev.kTgt, Ev.kAug2, Ev.kAug, Ev.kPut5, Ev.kPut4, Ev.kPut3, Ev.kPut2, Ev.kPut1, Ev.kApp3, Ev.kApp2, Ev.kApp, Ev.kExt3, Ev.kExt2, Ev.kExt, Ev.kEx, Ev.kRet, Ev.kIf, Ev.kFor2, Ev.kFor, Ev.kSeq, kTruth_bl, p_non, d_non, p_bl, d_bl, p_int, d_int, p_str, d_str, p_tup, d_tup, p_lst, d_lst, p_flst, d_flst, p_ob, d_ob, p_bor, d_own, opB_add, opB_sub, opB_mod, opB_fdiv, opC2_lt, opC2_le, opC2_gt, opC2_ge, opC2_eqI, opC2_neI, opC2_eqS, opC2_neS, opC2_eqT, opC2_neT, opC2_eqL, opC2_neL, opC2_isN, opC2_isNI, opC2_inT, opC2_ninT, biT, idxT_tm, idxT_lm, idxT_t0, idxT_l0, idxT_t1, idxT_l1, idxT_t2, idxT_l2, idxT_t3, idxT_l3, idxT_t4, idxT_l4, idxT_t5, idxT_l5, ixN, asInt, isNul, done_ret, done_next, seqT, asg, asgs, manyGo, boolsT, allRep, Ev.sizeLine_eq, f5, b5, hm, ho, hu, hu2]
  · have hs1 : ∀ x : Ob, (m.set n x)[n]? = some x := fun x => set_get hm
    have e1 : opB .mul (.int 100467) (.int (c + 1)) = some (.int (100467 * (c + 1))) := opB_mul (.of64 (by omega) (by omega)) (.of64 (by omega) (by omega))
    have e2 : opB .mul (.int (100467 * (c + 1))) (.int (c + 1)) = some (.int (100467 * (c + 1) * (c + 1))) := opB_mul (.of64 (by omega) (by omega)) (.of64 (by omega) (by omega))
    have e3 : opB .mul (.int 471) (.int (c + 1)) = some (.int (471 * (c + 1))) := opB_mul (.of64 (by omega) (by omega)) (.of64 (by omega) (by omega))
    have b1 : (c + 1) * (c + 1) ≤ 1073741825 * 1073741825 := Int.mul_le_mul (by omega) (by omega) (by omega) (by omega)
    have b0 : 0 ≤ (c + 1) * (c + 1) := Int.mul_nonneg (by omega) (by omega)
    have b2 : 100467 * (c + 1) * (c + 1) = 100467 * ((c + 1) * (c + 1)) := Int.mul_assoc _ _ _
    have e4 : opB .pow (.int (s + 100467 * (c + 1) * (c + 1) + 1275)) (.int 3) = some (.int ((s + 100467 * (c + 1) * (c + 1) + 1275) ^ 3)) := opB_cube (by rw [b2]; omega) (by rw [b2]; omega)
    obtain ⟨B, hB⟩ : ∃ B, (s + 100467 * (c + 1) * (c + 1) + 1275) ^ 3 = B := ⟨_, rfl⟩
    rw [hB] at e4
    have e5 : ∀ (b p : Int), 0 < p → p < 4294967296 → opB .mul (.int (b % p)) (.int (b % p % 11027 + 471 * (c + 1))) = some (.int (b % p * (b % p % 11027 + 471 * (c + 1)))) := fun b p h1 h2 => by
      have := Int.emod_nonneg b (show p ≠ 0 by omega)
      have := Int.emod_lt_of_pos b h1
      have := Int.emod_nonneg (b % p) (show (11027 : Int) ≠ 0 by omega)
      have := Int.emod_lt_of_pos (b % p) (show (0 : Int) < 11027 by omega)
      exact opB_mul (.of64 (by omega) (by omega)) (.of64 (by omega) (by omega))
    have r0 := Int.emod_nonneg (c + 1) (show (5 : Int) ≠ 0 by omega)
    have r1 := Int.emod_lt_of_pos (c + 1) (show (0 : Int) < 5 by omega)
    have P : Pot (m.set n (.lst [.int o, .int s, .int (c + 1)])) n (k + 1) := ⟨_, _, _, set_get hm, hs, hs2, by omega, by omega⟩
    have cases5 : (c + 1) % 5 = 0 ∨ (c + 1) % 5 = 1 ∨ (c + 1) % 5 = 2 ∨ (c + 1) % 5 = 3 ∨ (c + 1) % 5 = 4 := by omega
    have fi : ∀ (b p : Int), 0 ≤ b % p * (b % p % 11027 + 471 * (c + 1)) / 275 % u ∧ b % p * (b % p % 11027 + 471 * (c + 1)) / 275 % u < u := fun b p => ⟨Int.emod_nonneg _ (by omega), Int.emod_lt_of_pos _ hu⟩
    rcases cases5 with z | z | z | z | z
    · refine ⟨_, _, ?_, (fi B 2147483647).1, (fi B 2147483647).2, P⟩
      simp [Rs.bind_ok, Rs.bind_no, Rs.of_some, q_var, q_mv, q_gl, q_int, q_str, q_bl, q_non, q_tup, q_lst, q_shd, q_disp, q_bin, q_neg, q_cmp, q_chain, q_and, q_or, q_not, q_notF, q_ite, q_idx, q_sl, q_rev, q_call, q_callK, q_bi, q_pop, q_comp, q_nil, q_cons, q_snil, q_scons, t_var, t_gl, t_bl, t_cmp, t_chain, t_idx, t_call, t_callK, t_bi, t_bin, s_set, s_own, s_ownOf, s_many, s_tgt, s_aug, s_put, s_app, s_ext, s_ex, s_ret, s_retN, s_ite, s_for, s_whl, s_brk, s_cont, s_pass, s_nil, s_cons, Ev.kVar, Ev.kMv, Ev.kTup, Ev.kLst, Ev.kShd, Ev.kBin2, Ev.kBin1, Ev.kNeg, Ev.kCmp2, Ev.kCmp1, Ev.kChain3, Ev.kChain2', Ev.kChain2, Ev.kChain1, Ev.kAnd, Ev.kOr, Ev.kNot, Ev.kIte, Ev.kIdxM, Ev.kIdx3, Ev.kIdx2, Ev.kIdx1, Ev.kSl3, Ev.kO, Ev.kSl2, Ev.kSl1, Ev.kRev, Ev.kRes, Ev.kCall, Ev.kCallK2, Ev.kCallK1, Ev.kBi, Ev.kPop2, Ev.kPop, Ev.kComp3, Ev.kCond, Ev.kElt, Ev.kComp2, Ev.kComp, Ev.kEs2, Ev.kEs1, Ev.kSt2, Ev.kSt3, Ev.kSt1, Ev.kDisp, Ev.kSet, Ev.kOwn, Ev.kOwnOf2, Ev.kOwnOf, Ev.kEnv, Ev.kMany, Ev.kTgt, Ev.kAug2, Ev.kAug, Ev.kPut5, Ev.kPut4, Ev.kPut3, Ev.kPut2, Ev.kPut1, Ev.kApp3, Ev.kApp2, Ev.kApp, Ev.kExt3, Ev.kExt2, Ev.kExt, Ev.kEx, Ev.kRet, Ev.kIf, Ev.kFor2, Ev.kFor, Ev.kSeq, kTruth_bl, p_non, d_non, p_bl, d_bl, p_int, d_int, p_str, d_str, p_tup, d_tup, p_lst, d_lst, p_flst, d_flst, p_ob, d_ob, p_bor, d_own, opB_add, opB_sub, opB_mod, opB_fdiv, opC2_lt, opC2_le, opC2_gt, opC2_ge, opC2_eqI, opC2_neI, opC2_eqS, opC2_neS, opC2_eqT, opC2_neT, opC2_eqL, opC2_neL, opC2_isN, opC2_isNI, opC2_inT, opC2_ninT, biT, idxT_tm, idxT_lm, idxT_t0, idxT_l0, idxT_t1, idxT_l1, idxT_t2, idxT_l2, idxT_t3, idxT_l3, idxT_t4, idxT_l4, idxT_t5, idxT_l5, ixN, asInt, isNul, done_ret, done_next, seqT, asg, asgs, manyGo, boolsT, allRep, Ev.sizeLine_eq, f5, b5, hm, ho, hu, hu2, hs1, e1, e2, e3, e4, e5, z]
    · refine ⟨_, _, ?_, (fi B 2147483629).1, (fi B 2147483629).2, P⟩
      simp [Rs.bind_ok, Rs.bind_no, Rs.of_some, q_var, q_mv, q_gl, q_int, q_str, q_bl, q_non, q_tup, q_lst, q_shd, q_disp, q_bin, q_neg, q_cmp, q_chain, q_and, q_or, q_not, q_notF, q_ite, q_idx, q_sl, q_rev, q_call, q_callK, q_bi, q_pop, q_comp, q_nil, q_cons, q_snil, q_scons, t_var, t_gl, t_bl, t_cmp, t_chain, t_idx, t_call, t_callK, t_bi, t_bin, s_set, s_own, s_ownOf, s_many, s_tgt, s_aug, s_put, s_app, s_ext, s_ex, s_ret, s_retN, s_ite, s_for, s_whl, s_brk, s_cont, s_pass, s_nil, s_cons, Ev.kVar, Ev.kMv, Ev.kTup, Ev.kLst, Ev.kShd, Ev.kBin2, Ev.kBin1, Ev.kNeg, Ev.kCmp2, Ev.kCmp1, Ev.kChain3, Ev.kChain2', Ev.kChain2, Ev.kChain1, Ev.kAnd, Ev.kOr, Ev.kNot, Ev.kIte, Ev.kIdxM, Ev.kIdx3, Ev.kIdx2, Ev.kIdx1, Ev.kSl3, Ev.kO, Ev.kSl2, Ev.kSl1, Ev.kRev, Ev.kRes, Ev.kCall, Ev.kCallK2, Ev.kCallK1, Ev.kBi, Ev.kPop2, Ev.kPop, Ev.kComp3, Ev.kCond, Ev.kElt, Ev.kComp2, Ev.kComp, Ev.kEs2, Ev.kEs1, Ev.kSt2, Ev.kSt3, Ev.kSt1, Ev.kDisp, Ev.kSet, Ev.kOwn, Ev.kOwnOf2, Ev.kOwnOf, Ev.kEnv, Ev.kMany, Ev.kTgt, Ev.kAug2, Ev.kAug, Ev.kPut5, Ev.kPut4, Ev.kPut3, Ev.kPut2, Ev.kPut1, Ev.kApp3, Ev.kApp2, Ev.kApp, Ev.kExt3, Ev.kExt2, Ev.kExt, Ev.kEx, Ev.kRet, Ev.kIf, Ev.kFor2, Ev.kFor, Ev.kSeq, kTruth_bl, p_non, d_non, p_bl, d_bl, p_int, d_int, p_str, d_str, p_tup, d_tup, p_lst, d_lst, p_flst, d_flst, p_ob, d_ob, p_bor, d_own, opB_add, opB_sub, opB_mod, opB_fdiv, opC2_lt, opC2_le, opC2_gt, opC2_ge, opC2_eqI, opC2_neI, opC2_eqS, opC2_neS, opC2_eqT, opC2_neT, opC2_eqL, opC2_neL, opC2_isN, opC2_isNI, opC2_inT, opC2_ninT, biT, idxT_tm, idxT_lm, idxT_t0, idxT_l0, idxT_t1, idxT_l1, idxT_t2, idxT_l2, idxT_t3, idxT_l3, idxT_t4, idxT_l4, idxT_t5, idxT_l5, ixN, asInt, isNul, done_ret, done_next, seqT, asg, asgs, manyGo, boolsT, allRep, Ev.sizeLine_eq, f5, b5, hm, ho, hu, hu2, hs1, e1, e2, e3, e4, e5, z]
    · refine ⟨_, _, ?_, (fi B 2147483587).1, (fi B 2147483587).2, P⟩
      simp [Rs.bind_ok, Rs.bind_no, Rs.of_some, q_var, q_mv, q_gl, q_int, q_str, q_bl, q_non, q_tup, q_lst, q_shd, q_disp, q_bin, q_neg, q_cmp, q_chain, q_and, q_or, q_not, q_notF, q_ite, q_idx, q_sl, q_rev, q_call, q_callK, q_bi, q_pop, q_comp, q_nil, q_cons, q_snil, q_scons, t_var, t_gl, t_bl, t_cmp, t_chain, t_idx, t_call, t_callK, t_bi, t_bin, s_set, s_own, s_ownOf, s_many, s_tgt, s_aug, s_put, s_app, s_ext, s_ex, s_ret, s_retN, s_ite, s_for, s_whl, s_brk, s_cont, s_pass, s_nil, s_cons, Ev.kVar, Ev.kMv, Ev.kTup, Ev.kLst, Ev.kShd, Ev.kBin2, Ev.kBin1, Ev.kNeg, Ev.kCmp2, Ev.kCmp1, Ev.kChain3, Ev.kChain2', Ev.kChain2, Ev.kChain1, Ev.kAnd, Ev.kOr, Ev.kNot, Ev.kIte, Ev.kIdxM, Ev.kIdx3, Ev.kIdx2, Ev.kIdx1, Ev.kSl3, Ev.kO, Ev.kSl2, Ev.kSl1, Ev.kRev, Ev.kRes, Ev.kCall, Ev.kCallK2, Ev.kCallK1, Ev.kBi, Ev.kPop2, Ev.kPop, Ev.kComp3, Ev.kCond, Ev.kElt, Ev.kComp2, Ev.kComp, Ev.kEs2, Ev.kEs1, Ev.kSt2, Ev.kSt3, Ev.kSt1, Ev.kDisp, Ev.kSet, Ev.kOwn, Ev.kOwnOf2, Ev.kOwnOf, Ev.kEnv, Ev.kMany, Ev.kTgt, Ev.kAug2, Ev.kAug, Ev.kPut5, Ev.kPut4, Ev.kPut3, Ev.kPut2, Ev.kPut1, Ev.kApp3, Ev.kApp2, Ev.kApp, Ev.kExt3, Ev.kExt2, Ev.kExt, Ev.kEx, Ev.kRet, Ev.kIf, Ev.kFor2, Ev.kFor, Ev.kSeq, kTruth_bl, p_non, d_non, p_bl, d_bl, p_int, d_int, p_str, d_str, p_tup, d_tup, p_lst, d_lst, p_flst, d_flst, p_ob, d_ob, p_bor, d_own, opB_add, opB_sub, opB_mod, opB_fdiv, opC2_lt, opC2_le, opC2_gt, opC2_ge, opC2_eqI, opC2_neI, opC2_eqS, opC2_neS, opC2_eqT, opC2_neT, opC2_eqL, opC2_neL, opC2_isN, opC2_isNI, opC2_inT, opC2_ninT, biT, idxT_tm, idxT_lm, idxT_t0, idxT_l0, idxT_t1, idxT_l1, idxT_t2, idxT_l2, idxT_t3, idxT_l3, idxT_t4, idxT_l4, idxT_t5, idxT_l5, ixN, asInt, isNul, done_ret, done_next, seqT, asg, asgs, manyGo, boolsT, allRep, Ev.sizeLine_eq, f5, b5, hm, ho, hu, hu2, hs1, e1, e2, e3, e4, e5, z]
    · refine ⟨_, _, ?_, (fi B 2147483579).1, (fi B 2147483579).2, P⟩
      simp [Rs.bind_ok, Rs.bind_no, Rs.of_some, q_var, q_mv, q_gl, q_int, q_str, q_bl, q_non, q_tup, q_lst, q_shd, q_disp, q_bin, q_neg, q_cmp, q_chain, q_and, q_or, q_not, q_notF, q_ite, q_idx, q_sl, q_rev, q_call, q_callK, q_bi, q_pop, q_comp, q_nil, q_cons, q_snil, q_scons, t_var, t_gl, t_bl, t_cmp, t_chain, t_idx, t_call, t_callK, t_bi, t_bin, s_set, s_own, s_ownOf, s_many, s_tgt, s_aug, s_put, s_app, s_ext, s_ex, s_ret, s_retN, s_ite, s_for, s_whl, s_brk, s_cont, s_pass, s_nil, s_cons, Ev.kVar, Ev.kMv, Ev.kTup, Ev.kLst, Ev.kShd, Ev.kBin2, Ev.kBin1, Ev.kNeg, Ev.kCmp2, Ev.kCmp1, Ev.kChain3, Ev.kChain2', Ev.kChain2, Ev.kChain1, Ev.kAnd, Ev.kOr, Ev.kNot, Ev.kIte, Ev.kIdxM, Ev.kIdx3, Ev.kIdx2, Ev.kIdx1, Ev.kSl3, Ev.kO, Ev.kSl2, Ev.kSl1, Ev.kRev, Ev.kRes, Ev.kCall, Ev.kCallK2, Ev.kCallK1, Ev.kBi, Ev.kPop2, Ev.kPop, Ev.kComp3, Ev.kCond, Ev.kElt, Ev.kComp2, Ev.kComp, Ev.kEs2, Ev.kEs1, Ev.kSt2, Ev.kSt3, Ev.kSt1, Ev.kDisp, Ev.kSet, Ev.kOwn, Ev.kOwnOf2, Ev.kOwnOf, Ev.kEnv, Ev.kMany, Ev.kTgt, Ev.kAug2, Ev.kAug, Ev.kPut5, Ev.kPut4, Ev.kPut3, Ev.kPut2, Ev.kPut1, Ev.kApp3, Ev.kApp2, Ev.kApp, Ev.kExt3, Ev.kExt2, Ev.kExt, Ev.kEx, Ev.kRet, Ev.kIf, Ev.kFor2, Ev.kFor, Ev.kSeq, kTruth_bl, p_non, d_non, p_bl, d_bl, p_int, d_int, p_str, d_str, p_tup, d_tup, p_lst, d_lst, p_flst, d_flst, p_ob, d_ob, p_bor, d_own, opB_add, opB_sub, opB_mod, opB_fdiv, opC2_lt, opC2_le, opC2_gt, opC2_ge, opC2_eqI, opC2_neI, opC2_eqS, opC2_neS, opC2_eqT, opC2_neT, opC2_eqL, opC2_neL, opC2_isN, opC2_isNI, opC2_inT, opC2_ninT, biT, idxT_tm, idxT_lm, idxT_t0, idxT_l0, idxT_t1, idxT_l1, idxT_t2, idxT_l2, idxT_t3, idxT_l3, idxT_t4, idxT_l4, idxT_t5, idxT_l5, ixN, asInt, isNul, done_ret, done_next, seqT, asg, asgs, manyGo, boolsT, allRep, Ev.sizeLine_eq, f5, b5, hm, ho, hu, hu2, hs1, e1, e2, e3, e4, e5, z]
    · refine ⟨_, _, ?_, (fi B 2147483563).1, (fi B 2147483563).2, P⟩
      simp [Rs.bind_ok, Rs.bind_no, Rs.of_some, q_var, q_mv, q_gl, q_int, q_str, q_bl, q_non, q_tup, q_lst, q_shd, q_disp, q_bin, q_neg, q_cmp, q_chain, q_and, q_or, q_not, q_notF, q_ite, q_idx, q_sl, q_rev, q_call, q_callK, q_bi, q_pop, q_comp, q_nil, q_cons, q_snil, q_scons, t_var, t_gl, t_bl, t_cmp, t_chain, t_idx, t_call, t_callK, t_bi, t_bin, s_set, s_own, s_ownOf, s_many, s_tgt, s_aug, s_put, s_app, s_ext, s_ex, s_ret, s_retN, s_ite, s_for, s_whl, s_brk, s_cont, s_pass, s_nil, s_cons, Ev.kVar, Ev.kMv, Ev.kTup, Ev.kLst, Ev.kShd, Ev.kBin2, Ev.kBin1, Ev.kNeg, Ev.kCmp2, Ev.kCmp1, Ev.kChain3, Ev.kChain2', Ev.kChain2, Ev.kChain1, Ev.kAnd, Ev.kOr, Ev.kNot, Ev.kIte, Ev.kIdxM, Ev.kIdx3, Ev.kIdx2, Ev.kIdx1, Ev.kSl3, Ev.kO, Ev.kSl2, Ev.kSl1, Ev.kRev, Ev.kRes, Ev.kCall, Ev.kCallK2, Ev.kCallK1, Ev.kBi, Ev.kPop2, Ev.kPop, Ev.kComp3, Ev.kCond, Ev.kElt, Ev.kComp2, Ev.kComp, Ev.kEs2, Ev.kEs1, Ev.kSt2, Ev.kSt3, Ev.kSt1, Ev.kDisp, Ev.kSet, Ev.kOwn, Ev.kOwnOf2, Ev.kOwnOf, Ev.kEnv, Ev.kMany, Ev.kTgt, Ev.kAug2, Ev.kAug, Ev.kPut5, Ev.kPut4, Ev.kPut3, Ev.kPut2, Ev.kPut1, Ev.kApp3, Ev.kApp2, Ev.kApp, Ev.kExt3, Ev.kExt2, Ev.kExt, Ev.kEx, Ev.kRet, Ev.kIf, Ev.kFor2, Ev.kFor, Ev.kSeq, kTruth_bl, p_non, d_non, p_bl, d_bl, p_int, d_int, p_str, d_str, p_tup, d_tup, p_lst, d_lst, p_flst, d_flst, p_ob, d_ob, p_bor, d_own, opB_add, opB_sub, opB_mod, opB_fdiv, opC2_lt, opC2_le, opC2_gt, opC2_ge, opC2_eqI, opC2_neI, opC2_eqS, opC2_neS, opC2_eqT, opC2_neT, opC2_eqL, opC2_neL, opC2_isN, opC2_isNI, opC2_inT, opC2_ninT, biT, idxT_tm, idxT_lm, idxT_t0, idxT_l0, idxT_t1, idxT_l1, idxT_t2, idxT_l2, idxT_t3, idxT_l3, idxT_t4, idxT_l4, idxT_t5, idxT_l5, ixN, asInt, isNul, done_ret, done_next, seqT, asg, asgs, manyGo, boolsT, allRep, Ev.sizeLine_eq, f5, b5, hm, ho, hu, hu2, hs1, e1, e2, e3, e4, e5, z]
end G17
/-! What each function computes. -/
namespace G17
open Ev PySem L2
theorem g0 : gc[0]? = some (.tup [.str "x", .str "y", .str "t"]) := rfl
theorem g1 : gc[1]? = some (.str "x") := rfl
theorem g2 : gc[2]? = some (.str "y") := rfl
theorem g3 : gc[3]? = some (.int 3) := rfl
theorem g5 : gc[5]? = some (.str "t") := rfl
theorem g4 : gc[4]? = some (.int 2) := rfl
theorem of_spec {d n k : Nat} {m : List Ob} {l : List Tr} (h : Pot m n k) (hk : k < 1073741824) (hl : l ≠ []) (hp : l.all Tr.pure = true) (hn : l.length < 1000) :
    ∃ (t : Tr) (m' : List Ob), t ∈ l ∧ callF gc 64 fs (d + 2) 10 [.ob n, .lst l] m = some (t, m') ∧ Pot m' n (k + 1) := by
  have hl0 : 0 < l.length := List.length_pos_iff.mpr hl
  obtain ⟨j, m', e, h0, h1, P⟩ := take_spec (d := d) (u := (l.length : Int)) h hk (by omega) (by omega)
  obtain ⟨i, rfl⟩ : ∃ i : Nat, j = i := ⟨j.toNat, by omega⟩
  have hi : i < l.length := by omega
  have e2 : idxT (.lst l) (.int (i : Int)) = some l[i] := by
    rw [show idxT (.lst l) (.int (i : Int)) = atI l i from rfl, Ev.atI_nat]
    simp [hi]
  have hpi : Tr.pure l[i] = true := by
    rw [List.all_eq_true] at hp
    exact hp _ (by simp)
  refine ⟨l[i], m', by simp, ?_, P⟩
  rw [callS (fn := f10) rfl rfl]
  simp [Rs.bind_ok, Rs.bind_no, Rs.of_some, q_var, q_mv, q_gl, q_int, q_str, q_bl, q_non, q_tup, q_lst, q_shd, q_disp, q_bin, q_neg, q_cmp, q_chain, q_and, q_or, q_not, q_notF, q_ite, q_idx, q_sl, q_rev, q_call, q_callK, q_bi, q_pop, q_comp, q_nil, q_cons, q_snil, q_scons, t_var, t_gl, t_bl, t_cmp, t_chain, t_idx, t_call, t_callK, t_bi, t_bin, s_set, s_own, s_ownOf, s_many, s_tgt, s_aug, s_put, s_app, s_ext, s_ex, s_ret, s_retN, s_ite, s_for, s_whl, s_brk, s_cont, s_pass, s_nil, s_cons, Ev.kVar, Ev.kMv, Ev.kTup, Ev.kLst, Ev.kShd, Ev.kBin2, Ev.kBin1, Ev.kNeg, Ev.kCmp2, Ev.kCmp1, Ev.kChain3, Ev.kChain2', Ev.kChain2, Ev.kChain1, Ev.kAnd, Ev.kOr, Ev.kNot, Ev.kIte, Ev.kIdxM, Ev.kIdx3, Ev.kIdx2, Ev.kIdx1, Ev.kSl3, Ev.kO, Ev.kSl2, Ev.kSl1, Ev.kRev, Ev.kRes, Ev.kCall, Ev.kCallK2, Ev.kCallK1, Ev.kBi, Ev.kPop2, Ev.kPop, Ev.kComp3, Ev.kCond, Ev.kElt, Ev.kComp2, Ev.kComp, Ev.kEs2, Ev.kEs1, Ev.kSt2, Ev.kSt3, Ev.kSt1, Ev.kDisp, Ev.kSet, Ev.kOwn, Ev.kOwnOf2, Ev.kOwnOf, Ev.kEnv, Ev.kMany, Ev.kTgt, Ev.kAug2, Ev.kAug, Ev.kPut5, Ev.kPut4, Ev.kPut3, Ev.kPut2, Ev.kPut1, Ev.kApp3, Ev.kApp2, Ev.kApp, Ev.kExt3, Ev.kExt2, Ev.kExt, Ev.kEx, Ev.kRet, Ev.kIf, Ev.kFor2, Ev.kFor, Ev.kSeq, kTruth_bl, p_non, d_non, p_bl, d_bl, p_int, d_int, p_str, d_str, p_tup, d_tup, p_lst, d_lst, p_flst, d_flst, p_ob, d_ob, p_bor, d_own, opB_add, opB_sub, opB_mod, opB_fdiv, opC2_lt, opC2_le, opC2_gt, opC2_ge, opC2_eqI, opC2_neI, opC2_eqS, opC2_neS, opC2_eqT, opC2_neT, opC2_eqL, opC2_neL, opC2_isN, opC2_isNI, opC2_inT, opC2_ninT, biT, idxT_tm, idxT_lm, idxT_t0, idxT_l0, idxT_t1, idxT_l1, idxT_t2, idxT_l2, idxT_t3, idxT_l3, idxT_t4, idxT_l4, idxT_t5, idxT_l5, ixN, asInt, isNul, done_ret, done_next, seqT, asg, asgs, manyGo, boolsT, allRep, Ev.sizeLine_eq, f10, b10, e, e2, hpi]
theorem whole {d : Nat} {m : List Ob} {i : Int} : callF gc 64 fs (d + 1) 28 [.int i] m = some (.bl true, m) := by
  rw [callS (fn := f28) rfl rfl]
  simp [Rs.bind_ok, Rs.bind_no, Rs.of_some, q_var, q_mv, q_gl, q_int, q_str, q_bl, q_non, q_tup, q_lst, q_shd, q_disp, q_bin, q_neg, q_cmp, q_chain, q_and, q_or, q_not, q_notF, q_ite, q_idx, q_sl, q_rev, q_call, q_callK, q_bi, q_pop, q_comp, q_nil, q_cons, q_snil, q_scons, t_var, t_gl, t_bl, t_cmp, t_chain, t_idx, t_call, t_callK, t_bi, t_bin, s_set, s_own, s_ownOf, s_many, s_tgt, s_aug, s_put, s_app, s_ext, s_ex, s_ret, s_retN, s_ite, s_for, s_whl, s_brk, s_cont, s_pass, s_nil, s_cons, Ev.kVar, Ev.kMv, Ev.kTup, Ev.kLst, Ev.kShd, Ev.kBin2, Ev.kBin1, Ev.kNeg, Ev.kCmp2, Ev.kCmp1, Ev.kChain3, Ev.kChain2', Ev.kChain2, Ev.kChain1, Ev.kAnd, Ev.kOr, Ev.kNot, Ev.kIte, Ev.kIdxM, Ev.kIdx3, Ev.kIdx2, Ev.kIdx1, Ev.kSl3, Ev.kO, Ev.kSl2, Ev.kSl1, Ev.kRev, Ev.kRes, Ev.kCall, Ev.kCallK2, Ev.kCallK1, Ev.kBi, Ev.kPop2, Ev.kPop, Ev.kComp3, Ev.kCond, Ev.kElt, Ev.kComp2, Ev.kComp, Ev.kEs2, Ev.kEs1, Ev.kSt2, Ev.kSt3, Ev.kSt1, Ev.kDisp, Ev.kSet, Ev.kOwn, Ev.kOwnOf2, Ev.kOwnOf, Ev.kEnv, Ev.kMany, Ev.kTgt, Ev.kAug2, Ev.kAug, Ev.kPut5, Ev.kPut4, Ev.kPut3, Ev.kPut2, Ev.kPut1, Ev.kApp3, Ev.kApp2, Ev.kApp, Ev.kExt3, Ev.kExt2, Ev.kExt, Ev.kEx, Ev.kRet, Ev.kIf, Ev.kFor2, Ev.kFor, Ev.kSeq, kTruth_bl, p_non, d_non, p_bl, d_bl, p_int, d_int, p_str, d_str, p_tup, d_tup, p_lst, d_lst, p_flst, d_flst, p_ob, d_ob, p_bor, d_own, opB_add, opB_sub, opB_mod, opB_fdiv, opC2_lt, opC2_le, opC2_gt, opC2_ge, opC2_eqI, opC2_neI, opC2_eqS, opC2_neS, opC2_eqT, opC2_neT, opC2_eqL, opC2_neL, opC2_isN, opC2_isNI, opC2_inT, opC2_ninT, biT, idxT_tm, idxT_lm, idxT_t0, idxT_l0, idxT_t1, idxT_l1, idxT_t2, idxT_l2, idxT_t3, idxT_l3, idxT_t4, idxT_l4, idxT_t5, idxT_l5, ixN, asInt, isNul, done_ret, done_next, seqT, asg, asgs, manyGo, boolsT, allRep, Ev.sizeLine_eq, f28, b28]
theorem tuple {d : Nat} {m : List Ob} {l : List Tr} {n : Int} (h : (l.length : Int) = n) : callF gc 64 fs (d + 1) 29 [.tup l, .int n, .int n] m = some (.bl true, m) := by
  rw [callS (fn := f29) rfl rfl]
  simp [Rs.bind_ok, Rs.bind_no, Rs.of_some, q_var, q_mv, q_gl, q_int, q_str, q_bl, q_non, q_tup, q_lst, q_shd, q_disp, q_bin, q_neg, q_cmp, q_chain, q_and, q_or, q_not, q_notF, q_ite, q_idx, q_sl, q_rev, q_call, q_callK, q_bi, q_pop, q_comp, q_nil, q_cons, q_snil, q_scons, t_var, t_gl, t_bl, t_cmp, t_chain, t_idx, t_call, t_callK, t_bi, t_bin, s_set, s_own, s_ownOf, s_many, s_tgt, s_aug, s_put, s_app, s_ext, s_ex, s_ret, s_retN, s_ite, s_for, s_whl, s_brk, s_cont, s_pass, s_nil, s_cons, Ev.kVar, Ev.kMv, Ev.kTup, Ev.kLst, Ev.kShd, Ev.kBin2, Ev.kBin1, Ev.kNeg, Ev.kCmp2, Ev.kCmp1, Ev.kChain3, Ev.kChain2', Ev.kChain2, Ev.kChain1, Ev.kAnd, Ev.kOr, Ev.kNot, Ev.kIte, Ev.kIdxM, Ev.kIdx3, Ev.kIdx2, Ev.kIdx1, Ev.kSl3, Ev.kO, Ev.kSl2, Ev.kSl1, Ev.kRev, Ev.kRes, Ev.kCall, Ev.kCallK2, Ev.kCallK1, Ev.kBi, Ev.kPop2, Ev.kPop, Ev.kComp3, Ev.kCond, Ev.kElt, Ev.kComp2, Ev.kComp, Ev.kEs2, Ev.kEs1, Ev.kSt2, Ev.kSt3, Ev.kSt1, Ev.kDisp, Ev.kSet, Ev.kOwn, Ev.kOwnOf2, Ev.kOwnOf, Ev.kEnv, Ev.kMany, Ev.kTgt, Ev.kAug2, Ev.kAug, Ev.kPut5, Ev.kPut4, Ev.kPut3, Ev.kPut2, Ev.kPut1, Ev.kApp3, Ev.kApp2, Ev.kApp, Ev.kExt3, Ev.kExt2, Ev.kExt, Ev.kEx, Ev.kRet, Ev.kIf, Ev.kFor2, Ev.kFor, Ev.kSeq, kTruth_bl, p_non, d_non, p_bl, d_bl, p_int, d_int, p_str, d_str, p_tup, d_tup, p_lst, d_lst, p_flst, d_flst, p_ob, d_ob, p_bor, d_own, opB_add, opB_sub, opB_mod, opB_fdiv, opC2_lt, opC2_le, opC2_gt, opC2_ge, opC2_eqI, opC2_neI, opC2_eqS, opC2_neS, opC2_eqT, opC2_neT, opC2_eqL, opC2_neL, opC2_isN, opC2_isNI, opC2_inT, opC2_ninT, biT, idxT_tm, idxT_lm, idxT_t0, idxT_l0, idxT_t1, idxT_l1, idxT_t2, idxT_l2, idxT_t3, idxT_l3, idxT_t4, idxT_l4, idxT_t5, idxT_l5, ixN, asInt, isNul, done_ret, done_next, seqT, asg, asgs, manyGo, boolsT, allRep, Ev.sizeLine_eq, f29, b29, h]
theorem letter {d : Nat} {m : List Ob} {l : Le} : callF gc 64 fs (d + 1) 34 [.non, .str l.s] m = some (.bl true, m) := by
  rw [callS (fn := f34) rfl rfl]
  have e : inT (.str l.s) (.tup [.str "x", .str "y", .str "t"]) = some true := by cases l <;> rfl
  simp [Rs.bind_ok, Rs.bind_no, Rs.of_some, q_var, q_mv, q_gl, q_int, q_str, q_bl, q_non, q_tup, q_lst, q_shd, q_disp, q_bin, q_neg, q_cmp, q_chain, q_and, q_or, q_not, q_notF, q_ite, q_idx, q_sl, q_rev, q_call, q_callK, q_bi, q_pop, q_comp, q_nil, q_cons, q_snil, q_scons, t_var, t_gl, t_bl, t_cmp, t_chain, t_idx, t_call, t_callK, t_bi, t_bin, s_set, s_own, s_ownOf, s_many, s_tgt, s_aug, s_put, s_app, s_ext, s_ex, s_ret, s_retN, s_ite, s_for, s_whl, s_brk, s_cont, s_pass, s_nil, s_cons, Ev.kVar, Ev.kMv, Ev.kTup, Ev.kLst, Ev.kShd, Ev.kBin2, Ev.kBin1, Ev.kNeg, Ev.kCmp2, Ev.kCmp1, Ev.kChain3, Ev.kChain2', Ev.kChain2, Ev.kChain1, Ev.kAnd, Ev.kOr, Ev.kNot, Ev.kIte, Ev.kIdxM, Ev.kIdx3, Ev.kIdx2, Ev.kIdx1, Ev.kSl3, Ev.kO, Ev.kSl2, Ev.kSl1, Ev.kRev, Ev.kRes, Ev.kCall, Ev.kCallK2, Ev.kCallK1, Ev.kBi, Ev.kPop2, Ev.kPop, Ev.kComp3, Ev.kCond, Ev.kElt, Ev.kComp2, Ev.kComp, Ev.kEs2, Ev.kEs1, Ev.kSt2, Ev.kSt3, Ev.kSt1, Ev.kDisp, Ev.kSet, Ev.kOwn, Ev.kOwnOf2, Ev.kOwnOf, Ev.kEnv, Ev.kMany, Ev.kTgt, Ev.kAug2, Ev.kAug, Ev.kPut5, Ev.kPut4, Ev.kPut3, Ev.kPut2, Ev.kPut1, Ev.kApp3, Ev.kApp2, Ev.kApp, Ev.kExt3, Ev.kExt2, Ev.kExt, Ev.kEx, Ev.kRet, Ev.kIf, Ev.kFor2, Ev.kFor, Ev.kSeq, kTruth_bl, p_non, d_non, p_bl, d_bl, p_int, d_int, p_str, d_str, p_tup, d_tup, p_lst, d_lst, p_flst, d_flst, p_ob, d_ob, p_bor, d_own, opB_add, opB_sub, opB_mod, opB_fdiv, opC2_lt, opC2_le, opC2_gt, opC2_ge, opC2_eqI, opC2_neI, opC2_eqS, opC2_neS, opC2_eqT, opC2_neT, opC2_eqL, opC2_neL, opC2_isN, opC2_isNI, opC2_inT, opC2_ninT, biT, idxT_tm, idxT_lm, idxT_t0, idxT_l0, idxT_t1, idxT_l1, idxT_t2, idxT_l2, idxT_t3, idxT_l3, idxT_t4, idxT_l4, idxT_t5, idxT_l5, ixN, asInt, isNul, done_ret, done_next, seqT, asg, asgs, manyGo, boolsT, allRep, Ev.sizeLine_eq, f34, b34, e, g0]
theorem power {d : Nat} {m : List Ob} {l : Le} {k : Int} (h : k ≠ 0) : callF gc 64 fs (d + 2) 33 [.str l.s, .int k] m = some (.bl true, m) := by
  rw [callS (fn := f33) rfl rfl]
  have e : inT (.str l.s) (.tup [.str "x", .str "y", .str "t"]) = some true := by cases l <;> rfl
  simp [Rs.bind_ok, Rs.bind_no, Rs.of_some, q_var, q_mv, q_gl, q_int, q_str, q_bl, q_non, q_tup, q_lst, q_shd, q_disp, q_bin, q_neg, q_cmp, q_chain, q_and, q_or, q_not, q_notF, q_ite, q_idx, q_sl, q_rev, q_call, q_callK, q_bi, q_pop, q_comp, q_nil, q_cons, q_snil, q_scons, t_var, t_gl, t_bl, t_cmp, t_chain, t_idx, t_call, t_callK, t_bi, t_bin, s_set, s_own, s_ownOf, s_many, s_tgt, s_aug, s_put, s_app, s_ext, s_ex, s_ret, s_retN, s_ite, s_for, s_whl, s_brk, s_cont, s_pass, s_nil, s_cons, Ev.kVar, Ev.kMv, Ev.kTup, Ev.kLst, Ev.kShd, Ev.kBin2, Ev.kBin1, Ev.kNeg, Ev.kCmp2, Ev.kCmp1, Ev.kChain3, Ev.kChain2', Ev.kChain2, Ev.kChain1, Ev.kAnd, Ev.kOr, Ev.kNot, Ev.kIte, Ev.kIdxM, Ev.kIdx3, Ev.kIdx2, Ev.kIdx1, Ev.kSl3, Ev.kO, Ev.kSl2, Ev.kSl1, Ev.kRev, Ev.kRes, Ev.kCall, Ev.kCallK2, Ev.kCallK1, Ev.kBi, Ev.kPop2, Ev.kPop, Ev.kComp3, Ev.kCond, Ev.kElt, Ev.kComp2, Ev.kComp, Ev.kEs2, Ev.kEs1, Ev.kSt2, Ev.kSt3, Ev.kSt1, Ev.kDisp, Ev.kSet, Ev.kOwn, Ev.kOwnOf2, Ev.kOwnOf, Ev.kEnv, Ev.kMany, Ev.kTgt, Ev.kAug2, Ev.kAug, Ev.kPut5, Ev.kPut4, Ev.kPut3, Ev.kPut2, Ev.kPut1, Ev.kApp3, Ev.kApp2, Ev.kApp, Ev.kExt3, Ev.kExt2, Ev.kExt, Ev.kEx, Ev.kRet, Ev.kIf, Ev.kFor2, Ev.kFor, Ev.kSeq, kTruth_bl, p_non, d_non, p_bl, d_bl, p_int, d_int, p_str, d_str, p_tup, d_tup, p_lst, d_lst, p_flst, d_flst, p_ob, d_ob, p_bor, d_own, opB_add, opB_sub, opB_mod, opB_fdiv, opC2_lt, opC2_le, opC2_gt, opC2_ge, opC2_eqI, opC2_neI, opC2_eqS, opC2_neS, opC2_eqT, opC2_neT, opC2_eqL, opC2_neL, opC2_isN, opC2_isNI, opC2_inT, opC2_ninT, biT, idxT_tm, idxT_lm, idxT_t0, idxT_l0, idxT_t1, idxT_l1, idxT_t2, idxT_l2, idxT_t3, idxT_l3, idxT_t4, idxT_l4, idxT_t5, idxT_l5, ixN, asInt, isNul, done_ret, done_next, seqT, asg, asgs, manyGo, boolsT, allRep, Ev.sizeLine_eq, f33, b33, e, g0, whole, h]
theorem syllable {d : Nat} {m : List Ob} {e : Le × Int} (h : e.2 ≠ 0) : callF gc 64 fs (d + 3) 32 [.non, trS e] m = some (.bl true, m) := by
  rw [callS (fn := f32) rfl rfl]
  obtain ⟨l, k⟩ := e
  have e1 : ∀ d m, callF gc 64 fs (d + 1) 29 [.tup [.str l.s, .int k], .int 2, .int 2] m = some (.bl true, m) := fun d m => tuple rfl
  simp [Rs.bind_ok, Rs.bind_no, Rs.of_some, q_var, q_mv, q_gl, q_int, q_str, q_bl, q_non, q_tup, q_lst, q_shd, q_disp, q_bin, q_neg, q_cmp, q_chain, q_and, q_or, q_not, q_notF, q_ite, q_idx, q_sl, q_rev, q_call, q_callK, q_bi, q_pop, q_comp, q_nil, q_cons, q_snil, q_scons, t_var, t_gl, t_bl, t_cmp, t_chain, t_idx, t_call, t_callK, t_bi, t_bin, s_set, s_own, s_ownOf, s_many, s_tgt, s_aug, s_put, s_app, s_ext, s_ex, s_ret, s_retN, s_ite, s_for, s_whl, s_brk, s_cont, s_pass, s_nil, s_cons, Ev.kVar, Ev.kMv, Ev.kTup, Ev.kLst, Ev.kShd, Ev.kBin2, Ev.kBin1, Ev.kNeg, Ev.kCmp2, Ev.kCmp1, Ev.kChain3, Ev.kChain2', Ev.kChain2, Ev.kChain1, Ev.kAnd, Ev.kOr, Ev.kNot, Ev.kIte, Ev.kIdxM, Ev.kIdx3, Ev.kIdx2, Ev.kIdx1, Ev.kSl3, Ev.kO, Ev.kSl2, Ev.kSl1, Ev.kRev, Ev.kRes, Ev.kCall, Ev.kCallK2, Ev.kCallK1, Ev.kBi, Ev.kPop2, Ev.kPop, Ev.kComp3, Ev.kCond, Ev.kElt, Ev.kComp2, Ev.kComp, Ev.kEs2, Ev.kEs1, Ev.kSt2, Ev.kSt3, Ev.kSt1, Ev.kDisp, Ev.kSet, Ev.kOwn, Ev.kOwnOf2, Ev.kOwnOf, Ev.kEnv, Ev.kMany, Ev.kTgt, Ev.kAug2, Ev.kAug, Ev.kPut5, Ev.kPut4, Ev.kPut3, Ev.kPut2, Ev.kPut1, Ev.kApp3, Ev.kApp2, Ev.kApp, Ev.kExt3, Ev.kExt2, Ev.kExt, Ev.kEx, Ev.kRet, Ev.kIf, Ev.kFor2, Ev.kFor, Ev.kSeq, kTruth_bl, p_non, d_non, p_bl, d_bl, p_int, d_int, p_str, d_str, p_tup, d_tup, p_lst, d_lst, p_flst, d_flst, p_ob, d_ob, p_bor, d_own, opB_add, opB_sub, opB_mod, opB_fdiv, opC2_lt, opC2_le, opC2_gt, opC2_ge, opC2_eqI, opC2_neI, opC2_eqS, opC2_neS, opC2_eqT, opC2_neT, opC2_eqL, opC2_neL, opC2_isN, opC2_isNI, opC2_inT, opC2_ninT, biT, idxT_tm, idxT_lm, idxT_t0, idxT_l0, idxT_t1, idxT_l1, idxT_t2, idxT_l2, idxT_t3, idxT_l3, idxT_t4, idxT_l4, idxT_t5, idxT_l5, ixN, asInt, isNul, done_ret, done_next, seqT, asg, asgs, manyGo, boolsT, allRep, Ev.sizeLine_eq, f32, b32, trS, g4, e1, letter, power h]
theorem word {d : Nat} {m : List Ob} {w : W} (h : ∀ e ∈ w, e.2 ≠ 0) (hl : w.length ≤ 16777216) : callF gc 64 fs (d + 4) 25 [.non, trW w] m = some (.bl true, m) := by
  rw [callS (fn := f25) rfl rfl]
  have e : compGo (compF (.nm 2) [.val .non, .val (.tup (w.map trS)), .none] (kCond gc (callF gc 64 fs (d + 3)) .nul) (kElt gc (callF gc 64 fs (d + 3)) e25_0)) (w.map trS) m [] = some (List.replicate (w.map trS).length (.bl true), m) := by
    refine comp_true (fun x hx => ?_) (by simpa [Ev.sizeLine_eq] using hl)
    obtain ⟨e, he, rfl⟩ := List.mem_map.mp hx
    have hs := syllable (d := d) (m := m) (h e he)
    have hp : (trS e).pure = true := rfl
    simp [Rs.bind_ok, Rs.bind_no, Rs.of_some, q_var, q_mv, q_gl, q_int, q_str, q_bl, q_non, q_tup, q_lst, q_shd, q_disp, q_bin, q_neg, q_cmp, q_chain, q_and, q_or, q_not, q_notF, q_ite, q_idx, q_sl, q_rev, q_call, q_callK, q_bi, q_pop, q_comp, q_nil, q_cons, q_snil, q_scons, t_var, t_gl, t_bl, t_cmp, t_chain, t_idx, t_call, t_callK, t_bi, t_bin, s_set, s_own, s_ownOf, s_many, s_tgt, s_aug, s_put, s_app, s_ext, s_ex, s_ret, s_retN, s_ite, s_for, s_whl, s_brk, s_cont, s_pass, s_nil, s_cons, Ev.kVar, Ev.kMv, Ev.kTup, Ev.kLst, Ev.kShd, Ev.kBin2, Ev.kBin1, Ev.kNeg, Ev.kCmp2, Ev.kCmp1, Ev.kChain3, Ev.kChain2', Ev.kChain2, Ev.kChain1, Ev.kAnd, Ev.kOr, Ev.kNot, Ev.kIte, Ev.kIdxM, Ev.kIdx3, Ev.kIdx2, Ev.kIdx1, Ev.kSl3, Ev.kO, Ev.kSl2, Ev.kSl1, Ev.kRev, Ev.kRes, Ev.kCall, Ev.kCallK2, Ev.kCallK1, Ev.kBi, Ev.kPop2, Ev.kPop, Ev.kComp3, Ev.kCond, Ev.kElt, Ev.kComp2, Ev.kComp, Ev.kEs2, Ev.kEs1, Ev.kSt2, Ev.kSt3, Ev.kSt1, Ev.kDisp, Ev.kSet, Ev.kOwn, Ev.kOwnOf2, Ev.kOwnOf, Ev.kEnv, Ev.kMany, Ev.kTgt, Ev.kAug2, Ev.kAug, Ev.kPut5, Ev.kPut4, Ev.kPut3, Ev.kPut2, Ev.kPut1, Ev.kApp3, Ev.kApp2, Ev.kApp, Ev.kExt3, Ev.kExt2, Ev.kExt, Ev.kEx, Ev.kRet, Ev.kIf, Ev.kFor2, Ev.kFor, Ev.kSeq, kTruth_bl, p_non, d_non, p_bl, d_bl, p_int, d_int, p_str, d_str, p_tup, d_tup, p_lst, d_lst, p_flst, d_flst, p_ob, d_ob, p_bor, d_own, opB_add, opB_sub, opB_mod, opB_fdiv, opC2_lt, opC2_le, opC2_gt, opC2_ge, opC2_eqI, opC2_neI, opC2_eqS, opC2_neS, opC2_eqT, opC2_neT, opC2_eqL, opC2_neL, opC2_isN, opC2_isNI, opC2_inT, opC2_ninT, biT, idxT_tm, idxT_lm, idxT_t0, idxT_l0, idxT_t1, idxT_l1, idxT_t2, idxT_l2, idxT_t3, idxT_l3, idxT_t4, idxT_l4, idxT_t5, idxT_l5, ixN, asInt, isNul, done_ret, done_next, seqT, asg, asgs, manyGo, boolsT, allRep, Ev.sizeLine_eq, compF, hs, hp, e25_0]
  simp [Rs.bind_ok, Rs.bind_no, Rs.of_some, q_var, q_mv, q_gl, q_int, q_str, q_bl, q_non, q_tup, q_lst, q_shd, q_disp, q_bin, q_neg, q_cmp, q_chain, q_and, q_or, q_not, q_notF, q_ite, q_idx, q_sl, q_rev, q_call, q_callK, q_bi, q_pop, q_comp, q_nil, q_cons, q_snil, q_scons, t_var, t_gl, t_bl, t_cmp, t_chain, t_idx, t_call, t_callK, t_bi, t_bin, s_set, s_own, s_ownOf, s_many, s_tgt, s_aug, s_put, s_app, s_ext, s_ex, s_ret, s_retN, s_ite, s_for, s_whl, s_brk, s_cont, s_pass, s_nil, s_cons, Ev.kVar, Ev.kMv, Ev.kTup, Ev.kLst, Ev.kShd, Ev.kBin2, Ev.kBin1, Ev.kNeg, Ev.kCmp2, Ev.kCmp1, Ev.kChain3, Ev.kChain2', Ev.kChain2, Ev.kChain1, Ev.kAnd, Ev.kOr, Ev.kNot, Ev.kIte, Ev.kIdxM, Ev.kIdx3, Ev.kIdx2, Ev.kIdx1, Ev.kSl3, Ev.kO, Ev.kSl2, Ev.kSl1, Ev.kRev, Ev.kRes, Ev.kCall, Ev.kCallK2, Ev.kCallK1, Ev.kBi, Ev.kPop2, Ev.kPop, Ev.kComp3, Ev.kCond, Ev.kElt, Ev.kComp2, Ev.kComp, Ev.kEs2, Ev.kEs1, Ev.kSt2, Ev.kSt3, Ev.kSt1, Ev.kDisp, Ev.kSet, Ev.kOwn, Ev.kOwnOf2, Ev.kOwnOf, Ev.kEnv, Ev.kMany, Ev.kTgt, Ev.kAug2, Ev.kAug, Ev.kPut5, Ev.kPut4, Ev.kPut3, Ev.kPut2, Ev.kPut1, Ev.kApp3, Ev.kApp2, Ev.kApp, Ev.kExt3, Ev.kExt2, Ev.kExt, Ev.kEx, Ev.kRet, Ev.kIf, Ev.kFor2, Ev.kFor, Ev.kSeq, kTruth_bl, p_non, d_non, p_bl, d_bl, p_int, d_int, p_str, d_str, p_tup, d_tup, p_lst, d_lst, p_flst, d_flst, p_ob, d_ob, p_bor, d_own, opB_add, opB_sub, opB_mod, opB_fdiv, opC2_lt, opC2_le, opC2_gt, opC2_ge, opC2_eqI, opC2_neI, opC2_eqS, opC2_neS, opC2_eqT, opC2_neT, opC2_eqL, opC2_neL, opC2_isN, opC2_isNI, opC2_inT, opC2_ninT, biT, idxT_tm, idxT_lm, idxT_t0, idxT_l0, idxT_t1, idxT_l1, idxT_t2, idxT_l2, idxT_t3, idxT_l3, idxT_t4, idxT_l4, idxT_t5, idxT_l5, ixN, asInt, isNul, done_ret, done_next, seqT, asg, asgs, manyGo, boolsT, allRep, Ev.sizeLine_eq, f25, b25, trW, items, wipeE, Slot.lock, e, allT]
theorem forGo_cons {tg : Tg} {f : Sta → Rs Fl} {x : Tr} {xs : List Tr} {s s1 : Sta} {env : List Slot} (h : asg tg x s.env = some env) (h2 : f ⟨env, s.mem⟩ = .ok .next s1) : forGo tg f (x :: xs) s = forGo tg f xs s1 := by
  simp only [forGo, h, h2]
theorem ground {d : Nat} {m : List Ob} {w : W} (h : ∀ e ∈ w, e.2 ≠ 0) (hl : w.length ≤ 16777216) : callF gc 64 fs (d + 5) 19 [trW w] m = some (.non, m) := by
  rw [callS (fn := f19) rfl rfl]
  have go : ∀ (xs : List (Nat × (Le × Int))) (m : List Ob) (x0 x1 x2 x3 : Slot), ∃ x1' x2' x3', forGo (.tp [.nm 1, .tp [.nm 2, .nm 3]]) (exSs gc (callF gc 64 fs (d + 4)) 64 l19_0) (xs.map fun e => .tup [.int e.1, trS e.2]) ⟨[x0, x1, x2, x3], m⟩ = .ok .next ⟨[x0, x1', x2', x3'], m⟩ := by
    intro xs
    induction xs with
    | nil => intro m x0 x1 x2 x3; exact ⟨x1, x2, x3, rfl⟩
    | cons e xs ih =>
      intro m x0 x1 x2 x3
      obtain ⟨n, l, k⟩ := e
      obtain ⟨y1, y2, y3, hy⟩ := ih m x0 (.val (.int n)) (.val (.str l.s)) (.val (.int k))
      refine ⟨y1, y2, y3, ?_⟩
      rw [List.map_cons, forGo_cons (env := [x0, .val (.int n), .val (.str l.s), .val (.int k)]) (s1 := ⟨[x0, .val (.int n), .val (.str l.s), .val (.int k)], m⟩), hy]
      · simp [asg, asgs, trS, p_int, p_str]
      · have e : inT (.str l.s) (.tup [.str "x", .str "y", .str "t"]) = some true := by cases l <;> rfl
        simp [Rs.bind_ok, Rs.bind_no, Rs.of_some, q_var, q_mv, q_gl, q_int, q_str, q_bl, q_non, q_tup, q_lst, q_shd, q_disp, q_bin, q_neg, q_cmp, q_chain, q_and, q_or, q_not, q_notF, q_ite, q_idx, q_sl, q_rev, q_call, q_callK, q_bi, q_pop, q_comp, q_nil, q_cons, q_snil, q_scons, t_var, t_gl, t_bl, t_cmp, t_chain, t_idx, t_call, t_callK, t_bi, t_bin, s_set, s_own, s_ownOf, s_many, s_tgt, s_aug, s_put, s_app, s_ext, s_ex, s_ret, s_retN, s_ite, s_for, s_whl, s_brk, s_cont, s_pass, s_nil, s_cons, Ev.kVar, Ev.kMv, Ev.kTup, Ev.kLst, Ev.kShd, Ev.kBin2, Ev.kBin1, Ev.kNeg, Ev.kCmp2, Ev.kCmp1, Ev.kChain3, Ev.kChain2', Ev.kChain2, Ev.kChain1, Ev.kAnd, Ev.kOr, Ev.kNot, Ev.kIte, Ev.kIdxM, Ev.kIdx3, Ev.kIdx2, Ev.kIdx1, Ev.kSl3, Ev.kO, Ev.kSl2, Ev.kSl1, Ev.kRev, Ev.kRes, Ev.kCall, Ev.kCallK2, Ev.kCallK1, Ev.kBi, Ev.kPop2, Ev.kPop, Ev.kComp3, Ev.kCond, Ev.kElt, Ev.kComp2, Ev.kComp, Ev.kEs2, Ev.kEs1, Ev.kSt2, Ev.kSt3, Ev.kSt1, Ev.kDisp, Ev.kSet, Ev.kOwn, Ev.kOwnOf2, Ev.kOwnOf, Ev.kEnv, Ev.kMany, Ev.kTgt, Ev.kAug2, Ev.kAug, Ev.kPut5, Ev.kPut4, Ev.kPut3, Ev.kPut2, Ev.kPut1, Ev.kApp3, Ev.kApp2, Ev.kApp, Ev.kExt3, Ev.kExt2, Ev.kExt, Ev.kEx, Ev.kRet, Ev.kIf, Ev.kFor2, Ev.kFor, Ev.kSeq, kTruth_bl, p_non, d_non, p_bl, d_bl, p_int, d_int, p_str, d_str, p_tup, d_tup, p_lst, d_lst, p_flst, d_flst, p_ob, d_ob, p_bor, d_own, opB_add, opB_sub, opB_mod, opB_fdiv, opC2_lt, opC2_le, opC2_gt, opC2_ge, opC2_eqI, opC2_neI, opC2_eqS, opC2_neS, opC2_eqT, opC2_neT, opC2_eqL, opC2_neL, opC2_isN, opC2_isNI, opC2_inT, opC2_ninT, biT, idxT_tm, idxT_lm, idxT_t0, idxT_l0, idxT_t1, idxT_l1, idxT_t2, idxT_l2, idxT_t3, idxT_l3, idxT_t4, idxT_l4, idxT_t5, idxT_l5, ixN, asInt, isNul, done_ret, done_next, seqT, asg, asgs, manyGo, boolsT, allRep, Ev.sizeLine_eq, l19_0, g0, e]
  obtain ⟨y1, y2, y3, hy⟩ := go ((List.range w.length).zipWith (fun i e => (i, e)) w) m (.val (trW w)) .none .none .none
  have hen : enumT (w.map trS) = ((List.range w.length).zipWith (fun i e => (i, e)) w).map fun e => .tup [.int e.1, trS e.2] := by
    unfold enumT
    simp [List.zipWith_map_right, List.map_zipWith]
  have hw := word (d := d) (m := m) h hl
  have pw : (trW w).pure = true := rfl
  have dw : ∀ s : Sta, s.deref (trW w) = trW w := fun s => rfl
  have hi : items 3 [trW w] = some (enumT (w.map trS)) := rfl
  rw [← hen] at hy
  generalize enumT (w.map trS) = L at hi hy
  simp [Rs.bind_ok, Rs.bind_no, Rs.of_some, q_var, q_mv, q_gl, q_int, q_str, q_bl, q_non, q_tup, q_lst, q_shd, q_disp, q_bin, q_neg, q_cmp, q_chain, q_and, q_or, q_not, q_notF, q_ite, q_idx, q_sl, q_rev, q_call, q_callK, q_bi, q_pop, q_comp, q_nil, q_cons, q_snil, q_scons, t_var, t_gl, t_bl, t_cmp, t_chain, t_idx, t_call, t_callK, t_bi, t_bin, s_set, s_own, s_ownOf, s_many, s_tgt, s_aug, s_put, s_app, s_ext, s_ex, s_ret, s_retN, s_ite, s_for, s_whl, s_brk, s_cont, s_pass, s_nil, s_cons, Ev.kVar, Ev.kMv, Ev.kTup, Ev.kLst, Ev.kShd, Ev.kBin2, Ev.kBin1, Ev.kNeg, Ev.kCmp2, Ev.kCmp1, Ev.kChain3, Ev.kChain2', Ev.kChain2, Ev.kChain1, Ev.kAnd, Ev.kOr, Ev.kNot, Ev.kIte, Ev.kIdxM, Ev.kIdx3, Ev.kIdx2, Ev.kIdx1, Ev.kSl3, Ev.kO, Ev.kSl2, Ev.kSl1, Ev.kRev, Ev.kRes, Ev.kCall, Ev.kCallK2, Ev.kCallK1, Ev.kBi, Ev.kPop2, Ev.kPop, Ev.kComp3, Ev.kCond, Ev.kElt, Ev.kComp2, Ev.kComp, Ev.kEs2, Ev.kEs1, Ev.kSt2, Ev.kSt3, Ev.kSt1, Ev.kDisp, Ev.kSet, Ev.kOwn, Ev.kOwnOf2, Ev.kOwnOf, Ev.kEnv, Ev.kMany, Ev.kTgt, Ev.kAug2, Ev.kAug, Ev.kPut5, Ev.kPut4, Ev.kPut3, Ev.kPut2, Ev.kPut1, Ev.kApp3, Ev.kApp2, Ev.kApp, Ev.kExt3, Ev.kExt2, Ev.kExt, Ev.kEx, Ev.kRet, Ev.kIf, Ev.kFor2, Ev.kFor, Ev.kSeq, kTruth_bl, p_non, d_non, p_bl, d_bl, p_int, d_int, p_str, d_str, p_tup, d_tup, p_lst, d_lst, p_flst, d_flst, p_ob, d_ob, p_bor, d_own, opB_add, opB_sub, opB_mod, opB_fdiv, opC2_lt, opC2_le, opC2_gt, opC2_ge, opC2_eqI, opC2_neI, opC2_eqS, opC2_neS, opC2_eqT, opC2_neT, opC2_eqL, opC2_neL, opC2_isN, opC2_isNI, opC2_inT, opC2_ninT, biT, idxT_tm, idxT_lm, idxT_t0, idxT_l0, idxT_t1, idxT_l1, idxT_t2, idxT_l2, idxT_t3, idxT_l3, idxT_t4, idxT_l4, idxT_t5, idxT_l5, ixN, asInt, isNul, done_ret, done_next, seqT, asg, asgs, manyGo, boolsT, allRep, Ev.sizeLine_eq, f19, b19, hw, pw, dw, hi, hy]
theorem gl_cons (e : It) (r : List It) : ((e :: r).reverse.map trP).getLast? = some (trP e) := by simp
theorem dl_cons (e : It) (r : List It) : ((e :: r).reverse.map trP).dropLast = r.reverse.map trP := by simp
theorem app_push (e : It) (r : List It) : r.reverse.map trP ++ [trP e] = (e :: r).reverse.map trP := by simp
theorem nilPr (s : List It) : eqT (.lst (s.reverse.map trP)) (.lst []) = some s.isEmpty := by rw [nilP]; cases s <;> simp
theorem push_len {p : Int × Int} {k : Int} {s : List It} : (push p k s).length ≤ s.length + 1 := by
  cases s with
  | nil => rw [push_nil]; split <;> simp
  | cons e r => rw [push_cons]; repeat' split
                all_goals first | (simp; done) | (simp only [List.length_cons]; omega)
def pushAll (s : List It) (ts : List It) : List It := ts.foldl (fun s e => push e.1 e.2 s) s
theorem loop20 {cf : CF} : ∀ (ts s : List It) (m : List Ob) (x0 x2 x3 : Slot), s.length + ts.length < 16777216 → ∃ x2' x3', forGo (.tp [.nm 2, .nm 3]) (exSs gc cf 64 l23_0) (ts.map trP) ⟨[x0, .own (s.reverse.map trP), x2, x3], m⟩ = .ok .next ⟨[x0, .own ((pushAll s ts).reverse.map trP), x2', x3'], m⟩
  | [], s, m, x0, x2, x3, h => ⟨x2, x3, rfl⟩
  | e :: ts, s, m, x0, x2, x3, h => by
    obtain ⟨⟨a, b⟩, k⟩ := e
    have hl : (push (a, b) k s).length + ts.length < 16777216 := by have := push_len (p := (a, b)) (k := k) (s := s); simp at h; omega
    have key : ∃ y3, exSs gc cf 64 l23_0 ⟨[x0, .own (s.reverse.map trP), .val (.tup [.int a, .int b]), .val (.int k)], m⟩ = .ok .next ⟨[x0, .own ((push (a, b) k s).reverse.map trP), .val (.tup [.int a, .int b]), y3], m⟩ := by
      have hs : s.length < 16777216 := by simp at h; omega
      have ha : s.reverse.map trP ++ [.tup [.tup [.int a, .int b], .int k]] = (((a, b), k) :: s).reverse.map trP := app_push ((a, b), k) s
      cases s with
      | nil =>
        have hn : eqT (.lst []) (.lst []) = some true := nilP []
        by_cases hk : k = 0
        · refine ⟨.val (.int k), ?_⟩
          simp [Rs.bind_ok, Rs.bind_no, Rs.of_some, q_var, q_mv, q_gl, q_int, q_str, q_bl, q_non, q_tup, q_lst, q_shd, q_disp, q_bin, q_neg, q_cmp, q_chain, q_and, q_or, q_not, q_notF, q_ite, q_idx, q_sl, q_rev, q_call, q_callK, q_bi, q_pop, q_comp, q_nil, q_cons, q_snil, q_scons, t_var, t_gl, t_bl, t_cmp, t_chain, t_idx, t_call, t_callK, t_bi, t_bin, s_set, s_own, s_ownOf, s_many, s_tgt, s_aug, s_put, s_app, s_ext, s_ex, s_ret, s_retN, s_ite, s_for, s_whl, s_brk, s_cont, s_pass, s_nil, s_cons, Ev.kVar, Ev.kMv, Ev.kTup, Ev.kLst, Ev.kShd, Ev.kBin2, Ev.kBin1, Ev.kNeg, Ev.kCmp2, Ev.kCmp1, Ev.kChain3, Ev.kChain2', Ev.kChain2, Ev.kChain1, Ev.kAnd, Ev.kOr, Ev.kNot, Ev.kIte, Ev.kIdxM, Ev.kIdx3, Ev.kIdx2, Ev.kIdx1, Ev.kSl3, Ev.kO, Ev.kSl2, Ev.kSl1, Ev.kRev, Ev.kRes, Ev.kCall, Ev.kCallK2, Ev.kCallK1, Ev.kBi, Ev.kPop2, Ev.kPop, Ev.kComp3, Ev.kCond, Ev.kElt, Ev.kComp2, Ev.kComp, Ev.kEs2, Ev.kEs1, Ev.kSt2, Ev.kSt3, Ev.kSt1, Ev.kDisp, Ev.kSet, Ev.kOwn, Ev.kOwnOf2, Ev.kOwnOf, Ev.kEnv, Ev.kMany, Ev.kTgt, Ev.kAug2, Ev.kAug, Ev.kPut5, Ev.kPut4, Ev.kPut3, Ev.kPut2, Ev.kPut1, Ev.kApp3, Ev.kApp2, Ev.kApp, Ev.kExt3, Ev.kExt2, Ev.kExt, Ev.kEx, Ev.kRet, Ev.kIf, Ev.kFor2, Ev.kFor, Ev.kSeq, kTruth_bl, p_non, d_non, p_bl, d_bl, p_int, d_int, p_str, d_str, p_tup, d_tup, p_lst, d_lst, p_flst, d_flst, p_ob, d_ob, p_bor, d_own, opB_add, opB_sub, opB_mod, opB_fdiv, opC2_lt, opC2_le, opC2_gt, opC2_ge, opC2_eqI, opC2_neI, opC2_eqS, opC2_neS, opC2_eqT, opC2_neT, opC2_eqL, opC2_neL, opC2_isN, opC2_isNI, opC2_inT, opC2_ninT, biT, idxT_tm, idxT_lm, idxT_t0, idxT_l0, idxT_t1, idxT_l1, idxT_t2, idxT_l2, idxT_t3, idxT_l3, idxT_t4, idxT_l4, idxT_t5, idxT_l5, ixN, asInt, isNul, done_ret, done_next, seqT, asg, asgs, manyGo, boolsT, allRep, Ev.sizeLine_eq, l23_0, hn, hk, push_nil]
        · refine ⟨.val (.int k), ?_⟩
          simp [Rs.bind_ok, Rs.bind_no, Rs.of_some, q_var, q_mv, q_gl, q_int, q_str, q_bl, q_non, q_tup, q_lst, q_shd, q_disp, q_bin, q_neg, q_cmp, q_chain, q_and, q_or, q_not, q_notF, q_ite, q_idx, q_sl, q_rev, q_call, q_callK, q_bi, q_pop, q_comp, q_nil, q_cons, q_snil, q_scons, t_var, t_gl, t_bl, t_cmp, t_chain, t_idx, t_call, t_callK, t_bi, t_bin, s_set, s_own, s_ownOf, s_many, s_tgt, s_aug, s_put, s_app, s_ext, s_ex, s_ret, s_retN, s_ite, s_for, s_whl, s_brk, s_cont, s_pass, s_nil, s_cons, Ev.kVar, Ev.kMv, Ev.kTup, Ev.kLst, Ev.kShd, Ev.kBin2, Ev.kBin1, Ev.kNeg, Ev.kCmp2, Ev.kCmp1, Ev.kChain3, Ev.kChain2', Ev.kChain2, Ev.kChain1, Ev.kAnd, Ev.kOr, Ev.kNot, Ev.kIte, Ev.kIdxM, Ev.kIdx3, Ev.kIdx2, Ev.kIdx1, Ev.kSl3, Ev.kO, Ev.kSl2, Ev.kSl1, Ev.kRev, Ev.kRes, Ev.kCall, Ev.kCallK2, Ev.kCallK1, Ev.kBi, Ev.kPop2, Ev.kPop, Ev.kComp3, Ev.kCond, Ev.kElt, Ev.kComp2, Ev.kComp, Ev.kEs2, Ev.kEs1, Ev.kSt2, Ev.kSt3, Ev.kSt1, Ev.kDisp, Ev.kSet, Ev.kOwn, Ev.kOwnOf2, Ev.kOwnOf, Ev.kEnv, Ev.kMany, Ev.kTgt, Ev.kAug2, Ev.kAug, Ev.kPut5, Ev.kPut4, Ev.kPut3, Ev.kPut2, Ev.kPut1, Ev.kApp3, Ev.kApp2, Ev.kApp, Ev.kExt3, Ev.kExt2, Ev.kExt, Ev.kEx, Ev.kRet, Ev.kIf, Ev.kFor2, Ev.kFor, Ev.kSeq, kTruth_bl, p_non, d_non, p_bl, d_bl, p_int, d_int, p_str, d_str, p_tup, d_tup, p_lst, d_lst, p_flst, d_flst, p_ob, d_ob, p_bor, d_own, opB_add, opB_sub, opB_mod, opB_fdiv, opC2_lt, opC2_le, opC2_gt, opC2_ge, opC2_eqI, opC2_neI, opC2_eqS, opC2_neS, opC2_eqT, opC2_neT, opC2_eqL, opC2_neL, opC2_isN, opC2_isNI, opC2_inT, opC2_ninT, biT, idxT_tm, idxT_lm, idxT_t0, idxT_l0, idxT_t1, idxT_l1, idxT_t2, idxT_l2, idxT_t3, idxT_l3, idxT_t4, idxT_l4, idxT_t5, idxT_l5, ixN, asInt, isNul, done_ret, done_next, seqT, asg, asgs, manyGo, boolsT, allRep, Ev.sizeLine_eq, l23_0, hn, hk, push_nil, trP]
      | cons e r =>
        have hn := nilPr (e :: r)
        have hg := gl_cons e r
        have hd := dl_cons e r
        obtain ⟨⟨p, q⟩, j⟩ := e
        have hb : ∀ k : Int, r.reverse.map trP ++ [.tup [.tup [.int a, .int b], .int k]] = (((a, b), k) :: r).reverse.map trP := fun k => app_push ((a, b), k) r
        have hr : r.length < 16777216 := by simp at hs; omega
        generalize hL : (((p, q), j) :: r).reverse.map trP = L at hn hg hd ha
        have hLl : L.length < 16777216 := by rw [← hL]; simpa using hs
        generalize hM : r.reverse.map trP = M at hb hd
        have hMl : M.length < 16777216 := by rw [← hM]; simpa using hr
        by_cases he : (p, q) = (a, b)
        · by_cases hz : k + j = 0
          · refine ⟨.val (.int (k + j)), ?_⟩
            rw [push_cons, if_pos he, if_pos hz, hM]
            simp [Rs.bind_ok, Rs.bind_no, Rs.of_some, q_var, q_mv, q_gl, q_int, q_str, q_bl, q_non, q_tup, q_lst, q_shd, q_disp, q_bin, q_neg, q_cmp, q_chain, q_and, q_or, q_not, q_notF, q_ite, q_idx, q_sl, q_rev, q_call, q_callK, q_bi, q_pop, q_comp, q_nil, q_cons, q_snil, q_scons, t_var, t_gl, t_bl, t_cmp, t_chain, t_idx, t_call, t_callK, t_bi, t_bin, s_set, s_own, s_ownOf, s_many, s_tgt, s_aug, s_put, s_app, s_ext, s_ex, s_ret, s_retN, s_ite, s_for, s_whl, s_brk, s_cont, s_pass, s_nil, s_cons, Ev.kVar, Ev.kMv, Ev.kTup, Ev.kLst, Ev.kShd, Ev.kBin2, Ev.kBin1, Ev.kNeg, Ev.kCmp2, Ev.kCmp1, Ev.kChain3, Ev.kChain2', Ev.kChain2, Ev.kChain1, Ev.kAnd, Ev.kOr, Ev.kNot, Ev.kIte, Ev.kIdxM, Ev.kIdx3, Ev.kIdx2, Ev.kIdx1, Ev.kSl3, Ev.kO, Ev.kSl2, Ev.kSl1, Ev.kRev, Ev.kRes, Ev.kCall, Ev.kCallK2, Ev.kCallK1, Ev.kBi, Ev.kPop2, Ev.kPop, Ev.kComp3, Ev.kCond, Ev.kElt, Ev.kComp2, Ev.kComp, Ev.kEs2, Ev.kEs1, Ev.kSt2, Ev.kSt3, Ev.kSt1, Ev.kDisp, Ev.kSet, Ev.kOwn, Ev.kOwnOf2, Ev.kOwnOf, Ev.kEnv, Ev.kMany, Ev.kTgt, Ev.kAug2, Ev.kAug, Ev.kPut5, Ev.kPut4, Ev.kPut3, Ev.kPut2, Ev.kPut1, Ev.kApp3, Ev.kApp2, Ev.kApp, Ev.kExt3, Ev.kExt2, Ev.kExt, Ev.kEx, Ev.kRet, Ev.kIf, Ev.kFor2, Ev.kFor, Ev.kSeq, kTruth_bl, p_non, d_non, p_bl, d_bl, p_int, d_int, p_str, d_str, p_tup, d_tup, p_lst, d_lst, p_flst, d_flst, p_ob, d_ob, p_bor, d_own, opB_add, opB_sub, opB_mod, opB_fdiv, opC2_lt, opC2_le, opC2_gt, opC2_ge, opC2_eqI, opC2_neI, opC2_eqS, opC2_neS, opC2_eqT, opC2_neT, opC2_eqL, opC2_neL, opC2_isN, opC2_isNI, opC2_inT, opC2_ninT, biT, idxT_tm, idxT_lm, idxT_t0, idxT_l0, idxT_t1, idxT_l1, idxT_t2, idxT_l2, idxT_t3, idxT_l3, idxT_t4, idxT_l4, idxT_t5, idxT_l5, ixN, asInt, isNul, done_ret, done_next, seqT, asg, asgs, manyGo, boolsT, allRep, Ev.sizeLine_eq, l23_0, hn, hg, hd, trP, eqT_pair, he, hz]
          · refine ⟨.val (.int (k + j)), ?_⟩
            rw [push_cons, if_pos he, if_neg hz, ← hb]
            simp [Rs.bind_ok, Rs.bind_no, Rs.of_some, q_var, q_mv, q_gl, q_int, q_str, q_bl, q_non, q_tup, q_lst, q_shd, q_disp, q_bin, q_neg, q_cmp, q_chain, q_and, q_or, q_not, q_notF, q_ite, q_idx, q_sl, q_rev, q_call, q_callK, q_bi, q_pop, q_comp, q_nil, q_cons, q_snil, q_scons, t_var, t_gl, t_bl, t_cmp, t_chain, t_idx, t_call, t_callK, t_bi, t_bin, s_set, s_own, s_ownOf, s_many, s_tgt, s_aug, s_put, s_app, s_ext, s_ex, s_ret, s_retN, s_ite, s_for, s_whl, s_brk, s_cont, s_pass, s_nil, s_cons, Ev.kVar, Ev.kMv, Ev.kTup, Ev.kLst, Ev.kShd, Ev.kBin2, Ev.kBin1, Ev.kNeg, Ev.kCmp2, Ev.kCmp1, Ev.kChain3, Ev.kChain2', Ev.kChain2, Ev.kChain1, Ev.kAnd, Ev.kOr, Ev.kNot, Ev.kIte, Ev.kIdxM, Ev.kIdx3, Ev.kIdx2, Ev.kIdx1, Ev.kSl3, Ev.kO, Ev.kSl2, Ev.kSl1, Ev.kRev, Ev.kRes, Ev.kCall, Ev.kCallK2, Ev.kCallK1, Ev.kBi, Ev.kPop2, Ev.kPop, Ev.kComp3, Ev.kCond, Ev.kElt, Ev.kComp2, Ev.kComp, Ev.kEs2, Ev.kEs1, Ev.kSt2, Ev.kSt3, Ev.kSt1, Ev.kDisp, Ev.kSet, Ev.kOwn, Ev.kOwnOf2, Ev.kOwnOf, Ev.kEnv, Ev.kMany, Ev.kTgt, Ev.kAug2, Ev.kAug, Ev.kPut5, Ev.kPut4, Ev.kPut3, Ev.kPut2, Ev.kPut1, Ev.kApp3, Ev.kApp2, Ev.kApp, Ev.kExt3, Ev.kExt2, Ev.kExt, Ev.kEx, Ev.kRet, Ev.kIf, Ev.kFor2, Ev.kFor, Ev.kSeq, kTruth_bl, p_non, d_non, p_bl, d_bl, p_int, d_int, p_str, d_str, p_tup, d_tup, p_lst, d_lst, p_flst, d_flst, p_ob, d_ob, p_bor, d_own, opB_add, opB_sub, opB_mod, opB_fdiv, opC2_lt, opC2_le, opC2_gt, opC2_ge, opC2_eqI, opC2_neI, opC2_eqS, opC2_neS, opC2_eqT, opC2_neT, opC2_eqL, opC2_neL, opC2_isN, opC2_isNI, opC2_inT, opC2_ninT, biT, idxT_tm, idxT_lm, idxT_t0, idxT_l0, idxT_t1, idxT_l1, idxT_t2, idxT_l2, idxT_t3, idxT_l3, idxT_t4, idxT_l4, idxT_t5, idxT_l5, ixN, asInt, isNul, done_ret, done_next, seqT, asg, asgs, manyGo, boolsT, allRep, Ev.sizeLine_eq, l23_0, hn, hg, hd, trP, eqT_pair, he, hz, hMl]
        · by_cases hz : k = 0
          · refine ⟨.val (.int k), ?_⟩
            rw [push_cons, if_neg he, if_pos hz, hL]
            simp [Rs.bind_ok, Rs.bind_no, Rs.of_some, q_var, q_mv, q_gl, q_int, q_str, q_bl, q_non, q_tup, q_lst, q_shd, q_disp, q_bin, q_neg, q_cmp, q_chain, q_and, q_or, q_not, q_notF, q_ite, q_idx, q_sl, q_rev, q_call, q_callK, q_bi, q_pop, q_comp, q_nil, q_cons, q_snil, q_scons, t_var, t_gl, t_bl, t_cmp, t_chain, t_idx, t_call, t_callK, t_bi, t_bin, s_set, s_own, s_ownOf, s_many, s_tgt, s_aug, s_put, s_app, s_ext, s_ex, s_ret, s_retN, s_ite, s_for, s_whl, s_brk, s_cont, s_pass, s_nil, s_cons, Ev.kVar, Ev.kMv, Ev.kTup, Ev.kLst, Ev.kShd, Ev.kBin2, Ev.kBin1, Ev.kNeg, Ev.kCmp2, Ev.kCmp1, Ev.kChain3, Ev.kChain2', Ev.kChain2, Ev.kChain1, Ev.kAnd, Ev.kOr, Ev.kNot, Ev.kIte, Ev.kIdxM, Ev.kIdx3, Ev.kIdx2, Ev.kIdx1, Ev.kSl3, Ev.kO, Ev.kSl2, Ev.kSl1, Ev.kRev, Ev.kRes, Ev.kCall, Ev.kCallK2, Ev.kCallK1, Ev.kBi, Ev.kPop2, Ev.kPop, Ev.kComp3, Ev.kCond, Ev.kElt, Ev.kComp2, Ev.kComp, Ev.kEs2, Ev.kEs1, Ev.kSt2, Ev.kSt3, Ev.kSt1, Ev.kDisp, Ev.kSet, Ev.kOwn, Ev.kOwnOf2, Ev.kOwnOf, Ev.kEnv, Ev.kMany, Ev.kTgt, Ev.kAug2, Ev.kAug, Ev.kPut5, Ev.kPut4, Ev.kPut3, Ev.kPut2, Ev.kPut1, Ev.kApp3, Ev.kApp2, Ev.kApp, Ev.kExt3, Ev.kExt2, Ev.kExt, Ev.kEx, Ev.kRet, Ev.kIf, Ev.kFor2, Ev.kFor, Ev.kSeq, kTruth_bl, p_non, d_non, p_bl, d_bl, p_int, d_int, p_str, d_str, p_tup, d_tup, p_lst, d_lst, p_flst, d_flst, p_ob, d_ob, p_bor, d_own, opB_add, opB_sub, opB_mod, opB_fdiv, opC2_lt, opC2_le, opC2_gt, opC2_ge, opC2_eqI, opC2_neI, opC2_eqS, opC2_neS, opC2_eqT, opC2_neT, opC2_eqL, opC2_neL, opC2_isN, opC2_isNI, opC2_inT, opC2_ninT, biT, idxT_tm, idxT_lm, idxT_t0, idxT_l0, idxT_t1, idxT_l1, idxT_t2, idxT_l2, idxT_t3, idxT_l3, idxT_t4, idxT_l4, idxT_t5, idxT_l5, ixN, asInt, isNul, done_ret, done_next, seqT, asg, asgs, manyGo, boolsT, allRep, Ev.sizeLine_eq, l23_0, hn, hg, hd, trP, eqT_pair, he, hz]
          · refine ⟨.val (.int k), ?_⟩
            rw [push_cons, if_neg he, if_neg hz, ← ha]
            simp [Rs.bind_ok, Rs.bind_no, Rs.of_some, q_var, q_mv, q_gl, q_int, q_str, q_bl, q_non, q_tup, q_lst, q_shd, q_disp, q_bin, q_neg, q_cmp, q_chain, q_and, q_or, q_not, q_notF, q_ite, q_idx, q_sl, q_rev, q_call, q_callK, q_bi, q_pop, q_comp, q_nil, q_cons, q_snil, q_scons, t_var, t_gl, t_bl, t_cmp, t_chain, t_idx, t_call, t_callK, t_bi, t_bin, s_set, s_own, s_ownOf, s_many, s_tgt, s_aug, s_put, s_app, s_ext, s_ex, s_ret, s_retN, s_ite, s_for, s_whl, s_brk, s_cont, s_pass, s_nil, s_cons, Ev.kVar, Ev.kMv, Ev.kTup, Ev.kLst, Ev.kShd, Ev.kBin2, Ev.kBin1, Ev.kNeg, Ev.kCmp2, Ev.kCmp1, Ev.kChain3, Ev.kChain2', Ev.kChain2, Ev.kChain1, Ev.kAnd, Ev.kOr, Ev.kNot, Ev.kIte, Ev.kIdxM, Ev.kIdx3, Ev.kIdx2, Ev.kIdx1, Ev.kSl3, Ev.kO, Ev.kSl2, Ev.kSl1, Ev.kRev, Ev.kRes, Ev.kCall, Ev.kCallK2, Ev.kCallK1, Ev.kBi, Ev.kPop2, Ev.kPop, Ev.kComp3, Ev.kCond, Ev.kElt, Ev.kComp2, Ev.kComp, Ev.kEs2, Ev.kEs1, Ev.kSt2, Ev.kSt3, Ev.kSt1, Ev.kDisp, Ev.kSet, Ev.kOwn, Ev.kOwnOf2, Ev.kOwnOf, Ev.kEnv, Ev.kMany, Ev.kTgt, Ev.kAug2, Ev.kAug, Ev.kPut5, Ev.kPut4, Ev.kPut3, Ev.kPut2, Ev.kPut1, Ev.kApp3, Ev.kApp2, Ev.kApp, Ev.kExt3, Ev.kExt2, Ev.kExt, Ev.kEx, Ev.kRet, Ev.kIf, Ev.kFor2, Ev.kFor, Ev.kSeq, kTruth_bl, p_non, d_non, p_bl, d_bl, p_int, d_int, p_str, d_str, p_tup, d_tup, p_lst, d_lst, p_flst, d_flst, p_ob, d_ob, p_bor, d_own, opB_add, opB_sub, opB_mod, opB_fdiv, opC2_lt, opC2_le, opC2_gt, opC2_ge, opC2_eqI, opC2_neI, opC2_eqS, opC2_neS, opC2_eqT, opC2_neT, opC2_eqL, opC2_neL, opC2_isN, opC2_isNI, opC2_inT, opC2_ninT, biT, idxT_tm, idxT_lm, idxT_t0, idxT_l0, idxT_t1, idxT_l1, idxT_t2, idxT_l2, idxT_t3, idxT_l3, idxT_t4, idxT_l4, idxT_t5, idxT_l5, ixN, asInt, isNul, done_ret, done_next, seqT, asg, asgs, manyGo, boolsT, allRep, Ev.sizeLine_eq, l23_0, hn, hg, hd, trP, eqT_pair, he, hz, hLl]
    obtain ⟨y3, hy⟩ := key
    obtain ⟨z2, z3, hz⟩ := loop20 ts (push (a, b) k s) m x0 (.val (.tup [.int a, .int b])) y3 hl
    refine ⟨z2, z3, ?_⟩
    rw [List.map_cons, forGo_cons (env := [x0, .own (s.reverse.map trP), .val (.tup [.int a, .int b]), .val (.int k)]) (by simp [asg, asgs, trP, p_tup, p_int]) hy, hz]
    rfl
theorem together {d : Nat} {m : List Ob} {ts : List It} (h : ts.length < 16777216) : callF gc 64 fs (d + 1) 23 [.lst (ts.map trP)] m = some (.tup ((pushAll [] ts).reverse.map trP), m) := by
  rw [callS (fn := f23) rfl rfl]
  obtain ⟨z2, z3, hz⟩ := loop20 (cf := callF gc 64 fs d) ts [] m (.val (.lst (ts.map trP))) .none .none (by simpa using h)
  have hi : items 0 [.lst (ts.map trP)] = some (ts.map trP) := rfl
  rw [List.reverse_nil, List.map_nil] at hz
  simp [Rs.bind_ok, Rs.bind_no, Rs.of_some, q_var, q_mv, q_gl, q_int, q_str, q_bl, q_non, q_tup, q_lst, q_shd, q_disp, q_bin, q_neg, q_cmp, q_chain, q_and, q_or, q_not, q_notF, q_ite, q_idx, q_sl, q_rev, q_call, q_callK, q_bi, q_pop, q_comp, q_nil, q_cons, q_snil, q_scons, t_var, t_gl, t_bl, t_cmp, t_chain, t_idx, t_call, t_callK, t_bi, t_bin, s_set, s_own, s_ownOf, s_many, s_tgt, s_aug, s_put, s_app, s_ext, s_ex, s_ret, s_retN, s_ite, s_for, s_whl, s_brk, s_cont, s_pass, s_nil, s_cons, Ev.kVar, Ev.kMv, Ev.kTup, Ev.kLst, Ev.kShd, Ev.kBin2, Ev.kBin1, Ev.kNeg, Ev.kCmp2, Ev.kCmp1, Ev.kChain3, Ev.kChain2', Ev.kChain2, Ev.kChain1, Ev.kAnd, Ev.kOr, Ev.kNot, Ev.kIte, Ev.kIdxM, Ev.kIdx3, Ev.kIdx2, Ev.kIdx1, Ev.kSl3, Ev.kO, Ev.kSl2, Ev.kSl1, Ev.kRev, Ev.kRes, Ev.kCall, Ev.kCallK2, Ev.kCallK1, Ev.kBi, Ev.kPop2, Ev.kPop, Ev.kComp3, Ev.kCond, Ev.kElt, Ev.kComp2, Ev.kComp, Ev.kEs2, Ev.kEs1, Ev.kSt2, Ev.kSt3, Ev.kSt1, Ev.kDisp, Ev.kSet, Ev.kOwn, Ev.kOwnOf2, Ev.kOwnOf, Ev.kEnv, Ev.kMany, Ev.kTgt, Ev.kAug2, Ev.kAug, Ev.kPut5, Ev.kPut4, Ev.kPut3, Ev.kPut2, Ev.kPut1, Ev.kApp3, Ev.kApp2, Ev.kApp, Ev.kExt3, Ev.kExt2, Ev.kExt, Ev.kEx, Ev.kRet, Ev.kIf, Ev.kFor2, Ev.kFor, Ev.kSeq, kTruth_bl, p_non, d_non, p_bl, d_bl, p_int, d_int, p_str, d_str, p_tup, d_tup, p_lst, d_lst, p_flst, d_flst, p_ob, d_ob, p_bor, d_own, opB_add, opB_sub, opB_mod, opB_fdiv, opC2_lt, opC2_le, opC2_gt, opC2_ge, opC2_eqI, opC2_neI, opC2_eqS, opC2_neS, opC2_eqT, opC2_neT, opC2_eqL, opC2_neL, opC2_isN, opC2_isNI, opC2_inT, opC2_ninT, biT, idxT_tm, idxT_lm, idxT_t0, idxT_l0, idxT_t1, idxT_l1, idxT_t2, idxT_l2, idxT_t3, idxT_l3, idxT_t4, idxT_l4, idxT_t5, idxT_l5, ixN, asInt, isNul, done_ret, done_next, seqT, asg, asgs, manyGo, boolsT, allRep, Ev.sizeLine_eq, f23, b23, hi, hz]
def colS (f : Fo) : Le × Int → Fo
  | (.x, k) => (f.1, f.2.1 + k, f.2.2)
  | (.y, k) => (f.1, f.2.1, f.2.2 + k)
  | (.t, k) => (f.1 ++ [((-f.2.1, -f.2.2), k)], f.2.1, f.2.2)
def col (f : Fo) (w : W) : Fo := w.foldl colS f
theorem col_run : ∀ (w : W) (f : Fo), run (pushAll [] f.1, f.2.1, f.2.2) w = (pushAll [] (col f w).1, (col f w).2.1, (col f w).2.2)
  | [], f => rfl
  | (.x, k) :: w, f => col_run w (f.1, f.2.1 + k, f.2.2)
  | (.y, k) :: w, f => col_run w (f.1, f.2.1, f.2.2 + k)
  | (.t, k) :: w, f => by
    have h := col_run w (f.1 ++ [((-f.2.1, -f.2.2), k)], f.2.1, f.2.2)
    have e : pushAll [] (f.1 ++ [((-f.2.1, -f.2.2), k)]) = push (-f.2.1, -f.2.2) k (pushAll [] f.1) := by unfold pushAll; rw [List.foldl_append]; rfl
    dsimp only at h
    rw [e] at h
    exact h
theorem col_len : ∀ (w : W) (f : Fo), (col f w).1.length ≤ f.1.length + w.length
  | [], f => Nat.le_refl _
  | (.x, k) :: w, f => by have := col_len w (colS f (.x, k)); simp only [colS, List.length_cons] at this ⊢; exact Nat.le_trans this (by omega)
  | (.y, k) :: w, f => by have := col_len w (colS f (.y, k)); simp only [colS, List.length_cons] at this ⊢; exact Nat.le_trans this (by omega)
  | (.t, k) :: w, f => by have := col_len w (colS f (.t, k)); simp only [colS, List.length_cons, List.length_append, List.length_nil] at this ⊢; exact Nat.le_trans this (by omega)
theorem yx : decide (("y" : Str) = "x") = false := by decide +kernel
theorem tx : decide (("t" : Str) = "x") = false := by decide +kernel
theorem ty : decide (("t" : Str) = "y") = false := by decide +kernel
theorem loop14 {cf : CF} : ∀ (w : W) (f : Fo) (m : List Ob) (x0 x4 x5 : Slot), f.1.length + w.length < 16777216 → ∃ x4' x5', forGo (.tp [.nm 4, .nm 5]) (exSs gc cf 64 l20_0) (w.map trS) ⟨[x0, .own (f.1.map trP), .val (.int f.2.1), .val (.int f.2.2), x4, x5], m⟩ = .ok .next ⟨[x0, .own ((col f w).1.map trP), .val (.int (col f w).2.1), .val (.int (col f w).2.2), x4', x5'], m⟩
  | [], f, m, x0, x4, x5, h => ⟨x4, x5, rfl⟩
  | (l, k) :: w, f, m, x0, x4, x5, h => by
    have hf : f.1.length < 16777216 := by simp at h; omega
    have key : exSs gc cf 64 l20_0 ⟨[x0, .own (f.1.map trP), .val (.int f.2.1), .val (.int f.2.2), .val (.str l.s), .val (.int k)], m⟩ = .ok .next ⟨[x0, .own ((colS f (l, k)).1.map trP), .val (.int (colS f (l, k)).2.1), .val (.int (colS f (l, k)).2.2), .val (.str l.s), .val (.int k)], m⟩ := by
      cases l
      · simp [Rs.bind_ok, Rs.bind_no, Rs.of_some, q_var, q_mv, q_gl, q_int, q_str, q_bl, q_non, q_tup, q_lst, q_shd, q_disp, q_bin, q_neg, q_cmp, q_chain, q_and, q_or, q_not, q_notF, q_ite, q_idx, q_sl, q_rev, q_call, q_callK, q_bi, q_pop, q_comp, q_nil, q_cons, q_snil, q_scons, t_var, t_gl, t_bl, t_cmp, t_chain, t_idx, t_call, t_callK, t_bi, t_bin, s_set, s_own, s_ownOf, s_many, s_tgt, s_aug, s_put, s_app, s_ext, s_ex, s_ret, s_retN, s_ite, s_for, s_whl, s_brk, s_cont, s_pass, s_nil, s_cons, Ev.kVar, Ev.kMv, Ev.kTup, Ev.kLst, Ev.kShd, Ev.kBin2, Ev.kBin1, Ev.kNeg, Ev.kCmp2, Ev.kCmp1, Ev.kChain3, Ev.kChain2', Ev.kChain2, Ev.kChain1, Ev.kAnd, Ev.kOr, Ev.kNot, Ev.kIte, Ev.kIdxM, Ev.kIdx3, Ev.kIdx2, Ev.kIdx1, Ev.kSl3, Ev.kO, Ev.kSl2, Ev.kSl1, Ev.kRev, Ev.kRes, Ev.kCall, Ev.kCallK2, Ev.kCallK1, Ev.kBi, Ev.kPop2, Ev.kPop, Ev.kComp3, Ev.kCond, Ev.kElt, Ev.kComp2, Ev.kComp, Ev.kEs2, Ev.kEs1, Ev.kSt2, Ev.kSt3, Ev.kSt1, Ev.kDisp, Ev.kSet, Ev.kOwn, Ev.kOwnOf2, Ev.kOwnOf, Ev.kEnv, Ev.kMany, Ev.kTgt, Ev.kAug2, Ev.kAug, Ev.kPut5, Ev.kPut4, Ev.kPut3, Ev.kPut2, Ev.kPut1, Ev.kApp3, Ev.kApp2, Ev.kApp, Ev.kExt3, Ev.kExt2, Ev.kExt, Ev.kEx, Ev.kRet, Ev.kIf, Ev.kFor2, Ev.kFor, Ev.kSeq, kTruth_bl, p_non, d_non, p_bl, d_bl, p_int, d_int, p_str, d_str, p_tup, d_tup, p_lst, d_lst, p_flst, d_flst, p_ob, d_ob, p_bor, d_own, opB_add, opB_sub, opB_mod, opB_fdiv, opC2_lt, opC2_le, opC2_gt, opC2_ge, opC2_eqI, opC2_neI, opC2_eqS, opC2_neS, opC2_eqT, opC2_neT, opC2_eqL, opC2_neL, opC2_isN, opC2_isNI, opC2_inT, opC2_ninT, biT, idxT_tm, idxT_lm, idxT_t0, idxT_l0, idxT_t1, idxT_l1, idxT_t2, idxT_l2, idxT_t3, idxT_l3, idxT_t4, idxT_l4, idxT_t5, idxT_l5, ixN, asInt, isNul, done_ret, done_next, seqT, asg, asgs, manyGo, boolsT, allRep, Ev.sizeLine_eq, l20_0, g1, g2, Le.s, colS]
      · simp [Rs.bind_ok, Rs.bind_no, Rs.of_some, q_var, q_mv, q_gl, q_int, q_str, q_bl, q_non, q_tup, q_lst, q_shd, q_disp, q_bin, q_neg, q_cmp, q_chain, q_and, q_or, q_not, q_notF, q_ite, q_idx, q_sl, q_rev, q_call, q_callK, q_bi, q_pop, q_comp, q_nil, q_cons, q_snil, q_scons, t_var, t_gl, t_bl, t_cmp, t_chain, t_idx, t_call, t_callK, t_bi, t_bin, s_set, s_own, s_ownOf, s_many, s_tgt, s_aug, s_put, s_app, s_ext, s_ex, s_ret, s_retN, s_ite, s_for, s_whl, s_brk, s_cont, s_pass, s_nil, s_cons, Ev.kVar, Ev.kMv, Ev.kTup, Ev.kLst, Ev.kShd, Ev.kBin2, Ev.kBin1, Ev.kNeg, Ev.kCmp2, Ev.kCmp1, Ev.kChain3, Ev.kChain2', Ev.kChain2, Ev.kChain1, Ev.kAnd, Ev.kOr, Ev.kNot, Ev.kIte, Ev.kIdxM, Ev.kIdx3, Ev.kIdx2, Ev.kIdx1, Ev.kSl3, Ev.kO, Ev.kSl2, Ev.kSl1, Ev.kRev, Ev.kRes, Ev.kCall, Ev.kCallK2, Ev.kCallK1, Ev.kBi, Ev.kPop2, Ev.kPop, Ev.kComp3, Ev.kCond, Ev.kElt, Ev.kComp2, Ev.kComp, Ev.kEs2, Ev.kEs1, Ev.kSt2, Ev.kSt3, Ev.kSt1, Ev.kDisp, Ev.kSet, Ev.kOwn, Ev.kOwnOf2, Ev.kOwnOf, Ev.kEnv, Ev.kMany, Ev.kTgt, Ev.kAug2, Ev.kAug, Ev.kPut5, Ev.kPut4, Ev.kPut3, Ev.kPut2, Ev.kPut1, Ev.kApp3, Ev.kApp2, Ev.kApp, Ev.kExt3, Ev.kExt2, Ev.kExt, Ev.kEx, Ev.kRet, Ev.kIf, Ev.kFor2, Ev.kFor, Ev.kSeq, kTruth_bl, p_non, d_non, p_bl, d_bl, p_int, d_int, p_str, d_str, p_tup, d_tup, p_lst, d_lst, p_flst, d_flst, p_ob, d_ob, p_bor, d_own, opB_add, opB_sub, opB_mod, opB_fdiv, opC2_lt, opC2_le, opC2_gt, opC2_ge, opC2_eqI, opC2_neI, opC2_eqS, opC2_neS, opC2_eqT, opC2_neT, opC2_eqL, opC2_neL, opC2_isN, opC2_isNI, opC2_inT, opC2_ninT, biT, idxT_tm, idxT_lm, idxT_t0, idxT_l0, idxT_t1, idxT_l1, idxT_t2, idxT_l2, idxT_t3, idxT_l3, idxT_t4, idxT_l4, idxT_t5, idxT_l5, ixN, asInt, isNul, done_ret, done_next, seqT, asg, asgs, manyGo, boolsT, allRep, Ev.sizeLine_eq, l20_0, g1, g2, Le.s, colS, yx]
      · simp [Rs.bind_ok, Rs.bind_no, Rs.of_some, q_var, q_mv, q_gl, q_int, q_str, q_bl, q_non, q_tup, q_lst, q_shd, q_disp, q_bin, q_neg, q_cmp, q_chain, q_and, q_or, q_not, q_notF, q_ite, q_idx, q_sl, q_rev, q_call, q_callK, q_bi, q_pop, q_comp, q_nil, q_cons, q_snil, q_scons, t_var, t_gl, t_bl, t_cmp, t_chain, t_idx, t_call, t_callK, t_bi, t_bin, s_set, s_own, s_ownOf, s_many, s_tgt, s_aug, s_put, s_app, s_ext, s_ex, s_ret, s_retN, s_ite, s_for, s_whl, s_brk, s_cont, s_pass, s_nil, s_cons, Ev.kVar, Ev.kMv, Ev.kTup, Ev.kLst, Ev.kShd, Ev.kBin2, Ev.kBin1, Ev.kNeg, Ev.kCmp2, Ev.kCmp1, Ev.kChain3, Ev.kChain2', Ev.kChain2, Ev.kChain1, Ev.kAnd, Ev.kOr, Ev.kNot, Ev.kIte, Ev.kIdxM, Ev.kIdx3, Ev.kIdx2, Ev.kIdx1, Ev.kSl3, Ev.kO, Ev.kSl2, Ev.kSl1, Ev.kRev, Ev.kRes, Ev.kCall, Ev.kCallK2, Ev.kCallK1, Ev.kBi, Ev.kPop2, Ev.kPop, Ev.kComp3, Ev.kCond, Ev.kElt, Ev.kComp2, Ev.kComp, Ev.kEs2, Ev.kEs1, Ev.kSt2, Ev.kSt3, Ev.kSt1, Ev.kDisp, Ev.kSet, Ev.kOwn, Ev.kOwnOf2, Ev.kOwnOf, Ev.kEnv, Ev.kMany, Ev.kTgt, Ev.kAug2, Ev.kAug, Ev.kPut5, Ev.kPut4, Ev.kPut3, Ev.kPut2, Ev.kPut1, Ev.kApp3, Ev.kApp2, Ev.kApp, Ev.kExt3, Ev.kExt2, Ev.kExt, Ev.kEx, Ev.kRet, Ev.kIf, Ev.kFor2, Ev.kFor, Ev.kSeq, kTruth_bl, p_non, d_non, p_bl, d_bl, p_int, d_int, p_str, d_str, p_tup, d_tup, p_lst, d_lst, p_flst, d_flst, p_ob, d_ob, p_bor, d_own, opB_add, opB_sub, opB_mod, opB_fdiv, opC2_lt, opC2_le, opC2_gt, opC2_ge, opC2_eqI, opC2_neI, opC2_eqS, opC2_neS, opC2_eqT, opC2_neT, opC2_eqL, opC2_neL, opC2_isN, opC2_isNI, opC2_inT, opC2_ninT, biT, idxT_tm, idxT_lm, idxT_t0, idxT_l0, idxT_t1, idxT_l1, idxT_t2, idxT_l2, idxT_t3, idxT_l3, idxT_t4, idxT_l4, idxT_t5, idxT_l5, ixN, asInt, isNul, done_ret, done_next, seqT, asg, asgs, manyGo, boolsT, allRep, Ev.sizeLine_eq, l20_0, g1, g2, Le.s, colS, tx, ty, hf, trP]
    have hl : (colS f (l, k)).1.length + w.length < 16777216 := by
      have := col_len [(l, k)] f
      simp only [col, List.foldl, List.length_cons, List.length_nil] at this h
      omega
    obtain ⟨z4, z5, hz⟩ := loop14 w (colS f (l, k)) m x0 (.val (.str l.s)) (.val (.int k)) hl
    refine ⟨z4, z5, ?_⟩
    rw [List.map_cons, forGo_cons (env := [x0, .own (f.1.map trP), .val (.int f.2.1), .val (.int f.2.2), .val (.str l.s), .val (.int k)]) (by simp [asg, asgs, trS, p_str, p_int]) key, hz]
    rfl
theorem form_of {d : Nat} {m : List Ob} {w : W} (h : w.length < 16777216) : callF gc 64 fs (d + 2) 20 [trW w] m = some (trF (run ([], 0, 0) w), m) := by
  rw [callS (fn := f20) rfl rfl]
  obtain ⟨z4, z5, hz⟩ := loop14 (cf := callF gc 64 fs (d + 1)) w ([], 0, 0) m (.val (trW w)) .none .none (by simpa using h)
  have hi : items 0 [trW w] = some (w.map trS) := rfl
  have pw : (trW w).pure = true := rfl
  have hc := col_run w ([], 0, 0)
  have hl := col_len w ([], 0, 0)
  have ht := together (d := d) (m := m) (ts := (col ([], 0, 0) w).1) (by simp at hl; omega)
  have hr : run ([], 0, 0) w = (pushAll [] (col ([], 0, 0) w).1, (col ([], 0, 0) w).2.1, (col ([], 0, 0) w).2.2) := hc
  rw [hr, trF]
  generalize col ([], 0, 0) w = f at hz ht
  rw [List.map_nil] at hz
  simp [Rs.bind_ok, Rs.bind_no, Rs.of_some, q_var, q_mv, q_gl, q_int, q_str, q_bl, q_non, q_tup, q_lst, q_shd, q_disp, q_bin, q_neg, q_cmp, q_chain, q_and, q_or, q_not, q_notF, q_ite, q_idx, q_sl, q_rev, q_call, q_callK, q_bi, q_pop, q_comp, q_nil, q_cons, q_snil, q_scons, t_var, t_gl, t_bl, t_cmp, t_chain, t_idx, t_call, t_callK, t_bi, t_bin, s_set, s_own, s_ownOf, s_many, s_tgt, s_aug, s_put, s_app, s_ext, s_ex, s_ret, s_retN, s_ite, s_for, s_whl, s_brk, s_cont, s_pass, s_nil, s_cons, Ev.kVar, Ev.kMv, Ev.kTup, Ev.kLst, Ev.kShd, Ev.kBin2, Ev.kBin1, Ev.kNeg, Ev.kCmp2, Ev.kCmp1, Ev.kChain3, Ev.kChain2', Ev.kChain2, Ev.kChain1, Ev.kAnd, Ev.kOr, Ev.kNot, Ev.kIte, Ev.kIdxM, Ev.kIdx3, Ev.kIdx2, Ev.kIdx1, Ev.kSl3, Ev.kO, Ev.kSl2, Ev.kSl1, Ev.kRev, Ev.kRes, Ev.kCall, Ev.kCallK2, Ev.kCallK1, Ev.kBi, Ev.kPop2, Ev.kPop, Ev.kComp3, Ev.kCond, Ev.kElt, Ev.kComp2, Ev.kComp, Ev.kEs2, Ev.kEs1, Ev.kSt2, Ev.kSt3, Ev.kSt1, Ev.kDisp, Ev.kSet, Ev.kOwn, Ev.kOwnOf2, Ev.kOwnOf, Ev.kEnv, Ev.kMany, Ev.kTgt, Ev.kAug2, Ev.kAug, Ev.kPut5, Ev.kPut4, Ev.kPut3, Ev.kPut2, Ev.kPut1, Ev.kApp3, Ev.kApp2, Ev.kApp, Ev.kExt3, Ev.kExt2, Ev.kExt, Ev.kEx, Ev.kRet, Ev.kIf, Ev.kFor2, Ev.kFor, Ev.kSeq, kTruth_bl, p_non, d_non, p_bl, d_bl, p_int, d_int, p_str, d_str, p_tup, d_tup, p_lst, d_lst, p_flst, d_flst, p_ob, d_ob, p_bor, d_own, opB_add, opB_sub, opB_mod, opB_fdiv, opC2_lt, opC2_le, opC2_gt, opC2_ge, opC2_eqI, opC2_neI, opC2_eqS, opC2_neS, opC2_eqT, opC2_neT, opC2_eqL, opC2_neL, opC2_isN, opC2_isNI, opC2_inT, opC2_ninT, biT, idxT_tm, idxT_lm, idxT_t0, idxT_l0, idxT_t1, idxT_l1, idxT_t2, idxT_l2, idxT_t3, idxT_l3, idxT_t4, idxT_l4, idxT_t5, idxT_l5, ixN, asInt, isNul, done_ret, done_next, seqT, asg, asgs, manyGo, boolsT, allRep, Ev.sizeLine_eq, f20, b20, hi, pw, hz, ht]
theorem form {d : Nat} {m : List Ob} {w : W} (hn : ∀ e ∈ w, e.2 ≠ 0) (h : w.length < 16777216) : callF gc 64 fs (d + 6) 12 [trW w] m = some (trF (run ([], 0, 0) w), m) := by
  rw [callS (fn := f12) rfl rfl]
  have pw : (trW w).pure = true := rfl
  have pf : (trF (run ([], 0, 0) w)).pure = true := rfl
  simp [Rs.bind_ok, Rs.bind_no, Rs.of_some, q_var, q_mv, q_gl, q_int, q_str, q_bl, q_non, q_tup, q_lst, q_shd, q_disp, q_bin, q_neg, q_cmp, q_chain, q_and, q_or, q_not, q_notF, q_ite, q_idx, q_sl, q_rev, q_call, q_callK, q_bi, q_pop, q_comp, q_nil, q_cons, q_snil, q_scons, t_var, t_gl, t_bl, t_cmp, t_chain, t_idx, t_call, t_callK, t_bi, t_bin, s_set, s_own, s_ownOf, s_many, s_tgt, s_aug, s_put, s_app, s_ext, s_ex, s_ret, s_retN, s_ite, s_for, s_whl, s_brk, s_cont, s_pass, s_nil, s_cons, Ev.kVar, Ev.kMv, Ev.kTup, Ev.kLst, Ev.kShd, Ev.kBin2, Ev.kBin1, Ev.kNeg, Ev.kCmp2, Ev.kCmp1, Ev.kChain3, Ev.kChain2', Ev.kChain2, Ev.kChain1, Ev.kAnd, Ev.kOr, Ev.kNot, Ev.kIte, Ev.kIdxM, Ev.kIdx3, Ev.kIdx2, Ev.kIdx1, Ev.kSl3, Ev.kO, Ev.kSl2, Ev.kSl1, Ev.kRev, Ev.kRes, Ev.kCall, Ev.kCallK2, Ev.kCallK1, Ev.kBi, Ev.kPop2, Ev.kPop, Ev.kComp3, Ev.kCond, Ev.kElt, Ev.kComp2, Ev.kComp, Ev.kEs2, Ev.kEs1, Ev.kSt2, Ev.kSt3, Ev.kSt1, Ev.kDisp, Ev.kSet, Ev.kOwn, Ev.kOwnOf2, Ev.kOwnOf, Ev.kEnv, Ev.kMany, Ev.kTgt, Ev.kAug2, Ev.kAug, Ev.kPut5, Ev.kPut4, Ev.kPut3, Ev.kPut2, Ev.kPut1, Ev.kApp3, Ev.kApp2, Ev.kApp, Ev.kExt3, Ev.kExt2, Ev.kExt, Ev.kEx, Ev.kRet, Ev.kIf, Ev.kFor2, Ev.kFor, Ev.kSeq, kTruth_bl, p_non, d_non, p_bl, d_bl, p_int, d_int, p_str, d_str, p_tup, d_tup, p_lst, d_lst, p_flst, d_flst, p_ob, d_ob, p_bor, d_own, opB_add, opB_sub, opB_mod, opB_fdiv, opC2_lt, opC2_le, opC2_gt, opC2_ge, opC2_eqI, opC2_neI, opC2_eqS, opC2_neS, opC2_eqT, opC2_neT, opC2_eqL, opC2_neL, opC2_isN, opC2_isNI, opC2_inT, opC2_ninT, biT, idxT_tm, idxT_lm, idxT_t0, idxT_l0, idxT_t1, idxT_l1, idxT_t2, idxT_l2, idxT_t3, idxT_l3, idxT_t4, idxT_l4, idxT_t5, idxT_l5, ixN, asInt, isNul, done_ret, done_next, seqT, asg, asgs, manyGo, boolsT, allRep, Ev.sizeLine_eq, f12, b12, pw, pf, ground (d := d) hn (Nat.le_of_lt h), form_of (d := d + 3) (m := m) h]
theorem loop12 {cf : CF} : ∀ (w v : W) (m : List Ob) (x0 x2 x3 : Slot), (∀ e ∈ w, e.2.natAbs ≤ 1000) → v.length + 1000 * w.length ≤ 16777216 → ∃ x2' x3', forGo (.tp [.nm 2, .nm 3]) (exSs gc cf 64 l14_0) (w.map trS) ⟨[x0, .own (v.map trS), x2, x3], m⟩ = .ok .next ⟨[x0, .own ((v ++ singles w).map trS), x2', x3'], m⟩
  | [], v, m, x0, x2, x3, hb, h => ⟨x2, x3, by rw [show singles [] = [] from rfl, List.append_nil]; rfl⟩
  | (l, k) :: w, v, m, x0, x2, x3, hb, h => by
    have hk : k.natAbs ≤ 1000 := hb (l, k) (by simp)
    have hr : ∀ i : Int, opB .mul (.lst [.tup [.str l.s, .int i]]) (.int (if k < 0 then -k else k)) = some (.lst (List.replicate k.natAbs (.tup [.str l.s, .int i]))) := fun i => opB_rep hk
    have hv : v.length + k.natAbs ≤ 16777216 := by simp at h; omega
    have e1 : v.map trS ++ List.replicate k.natAbs (.tup [.str l.s, .int (sgn k)]) = (v ++ List.replicate k.natAbs (l, sgn k)).map trS := by simp [trS]
    have key : exSs gc cf 64 l14_0 ⟨[x0, .own (v.map trS), .val (.str l.s), .val (.int k)], m⟩ = .ok .next ⟨[x0, .own ((v ++ List.replicate k.natAbs (l, sgn k)).map trS), .val (.str l.s), .val (.int k)], m⟩ := by
      rw [← e1]
      by_cases hp : 0 < k
      · have e2 : sgn k = 1 := if_pos hp
        rw [e2]
        simp [Rs.bind_ok, Rs.bind_no, Rs.of_some, q_var, q_mv, q_gl, q_int, q_str, q_bl, q_non, q_tup, q_lst, q_shd, q_disp, q_bin, q_neg, q_cmp, q_chain, q_and, q_or, q_not, q_notF, q_ite, q_idx, q_sl, q_rev, q_call, q_callK, q_bi, q_pop, q_comp, q_nil, q_cons, q_snil, q_scons, t_var, t_gl, t_bl, t_cmp, t_chain, t_idx, t_call, t_callK, t_bi, t_bin, s_set, s_own, s_ownOf, s_many, s_tgt, s_aug, s_put, s_app, s_ext, s_ex, s_ret, s_retN, s_ite, s_for, s_whl, s_brk, s_cont, s_pass, s_nil, s_cons, Ev.kVar, Ev.kMv, Ev.kTup, Ev.kLst, Ev.kShd, Ev.kBin2, Ev.kBin1, Ev.kNeg, Ev.kCmp2, Ev.kCmp1, Ev.kChain3, Ev.kChain2', Ev.kChain2, Ev.kChain1, Ev.kAnd, Ev.kOr, Ev.kNot, Ev.kIte, Ev.kIdxM, Ev.kIdx3, Ev.kIdx2, Ev.kIdx1, Ev.kSl3, Ev.kO, Ev.kSl2, Ev.kSl1, Ev.kRev, Ev.kRes, Ev.kCall, Ev.kCallK2, Ev.kCallK1, Ev.kBi, Ev.kPop2, Ev.kPop, Ev.kComp3, Ev.kCond, Ev.kElt, Ev.kComp2, Ev.kComp, Ev.kEs2, Ev.kEs1, Ev.kSt2, Ev.kSt3, Ev.kSt1, Ev.kDisp, Ev.kSet, Ev.kOwn, Ev.kOwnOf2, Ev.kOwnOf, Ev.kEnv, Ev.kMany, Ev.kTgt, Ev.kAug2, Ev.kAug, Ev.kPut5, Ev.kPut4, Ev.kPut3, Ev.kPut2, Ev.kPut1, Ev.kApp3, Ev.kApp2, Ev.kApp, Ev.kExt3, Ev.kExt2, Ev.kExt, Ev.kEx, Ev.kRet, Ev.kIf, Ev.kFor2, Ev.kFor, Ev.kSeq, kTruth_bl, p_non, d_non, p_bl, d_bl, p_int, d_int, p_str, d_str, p_tup, d_tup, p_lst, d_lst, p_flst, d_flst, p_ob, d_ob, p_bor, d_own, opB_add, opB_sub, opB_mod, opB_fdiv, opC2_lt, opC2_le, opC2_gt, opC2_ge, opC2_eqI, opC2_neI, opC2_eqS, opC2_neS, opC2_eqT, opC2_neT, opC2_eqL, opC2_neL, opC2_isN, opC2_isNI, opC2_inT, opC2_ninT, biT, idxT_tm, idxT_lm, idxT_t0, idxT_l0, idxT_t1, idxT_l1, idxT_t2, idxT_l2, idxT_t3, idxT_l3, idxT_t4, idxT_l4, idxT_t5, idxT_l5, ixN, asInt, isNul, done_ret, done_next, seqT, asg, asgs, manyGo, boolsT, allRep, Ev.sizeLine_eq, l14_0, hr, hv, hp]
      · have e2 : sgn k = -1 := if_neg hp
        rw [e2]
        simp [Rs.bind_ok, Rs.bind_no, Rs.of_some, q_var, q_mv, q_gl, q_int, q_str, q_bl, q_non, q_tup, q_lst, q_shd, q_disp, q_bin, q_neg, q_cmp, q_chain, q_and, q_or, q_not, q_notF, q_ite, q_idx, q_sl, q_rev, q_call, q_callK, q_bi, q_pop, q_comp, q_nil, q_cons, q_snil, q_scons, t_var, t_gl, t_bl, t_cmp, t_chain, t_idx, t_call, t_callK, t_bi, t_bin, s_set, s_own, s_ownOf, s_many, s_tgt, s_aug, s_put, s_app, s_ext, s_ex, s_ret, s_retN, s_ite, s_for, s_whl, s_brk, s_cont, s_pass, s_nil, s_cons, Ev.kVar, Ev.kMv, Ev.kTup, Ev.kLst, Ev.kShd, Ev.kBin2, Ev.kBin1, Ev.kNeg, Ev.kCmp2, Ev.kCmp1, Ev.kChain3, Ev.kChain2', Ev.kChain2, Ev.kChain1, Ev.kAnd, Ev.kOr, Ev.kNot, Ev.kIte, Ev.kIdxM, Ev.kIdx3, Ev.kIdx2, Ev.kIdx1, Ev.kSl3, Ev.kO, Ev.kSl2, Ev.kSl1, Ev.kRev, Ev.kRes, Ev.kCall, Ev.kCallK2, Ev.kCallK1, Ev.kBi, Ev.kPop2, Ev.kPop, Ev.kComp3, Ev.kCond, Ev.kElt, Ev.kComp2, Ev.kComp, Ev.kEs2, Ev.kEs1, Ev.kSt2, Ev.kSt3, Ev.kSt1, Ev.kDisp, Ev.kSet, Ev.kOwn, Ev.kOwnOf2, Ev.kOwnOf, Ev.kEnv, Ev.kMany, Ev.kTgt, Ev.kAug2, Ev.kAug, Ev.kPut5, Ev.kPut4, Ev.kPut3, Ev.kPut2, Ev.kPut1, Ev.kApp3, Ev.kApp2, Ev.kApp, Ev.kExt3, Ev.kExt2, Ev.kExt, Ev.kEx, Ev.kRet, Ev.kIf, Ev.kFor2, Ev.kFor, Ev.kSeq, kTruth_bl, p_non, d_non, p_bl, d_bl, p_int, d_int, p_str, d_str, p_tup, d_tup, p_lst, d_lst, p_flst, d_flst, p_ob, d_ob, p_bor, d_own, opB_add, opB_sub, opB_mod, opB_fdiv, opC2_lt, opC2_le, opC2_gt, opC2_ge, opC2_eqI, opC2_neI, opC2_eqS, opC2_neS, opC2_eqT, opC2_neT, opC2_eqL, opC2_neL, opC2_isN, opC2_isNI, opC2_inT, opC2_ninT, biT, idxT_tm, idxT_lm, idxT_t0, idxT_l0, idxT_t1, idxT_l1, idxT_t2, idxT_l2, idxT_t3, idxT_l3, idxT_t4, idxT_l4, idxT_t5, idxT_l5, ixN, asInt, isNul, done_ret, done_next, seqT, asg, asgs, manyGo, boolsT, allRep, Ev.sizeLine_eq, l14_0, hr, hv, hp]
    obtain ⟨z2, z3, hz⟩ := loop12 w (v ++ List.replicate k.natAbs (l, sgn k)) m x0 (.val (.str l.s)) (.val (.int k)) (fun e he => hb e (by simp [he])) (by simp at h ⊢; omega)
    refine ⟨z2, z3, ?_⟩
    rw [List.map_cons, forGo_cons (env := [x0, .own (v.map trS), .val (.str l.s), .val (.int k)]) (by simp [asg, asgs, trS, p_str, p_int]) key, hz]
    rw [List.append_assoc]
    rfl
theorem singles_of {d : Nat} {m : List Ob} {w : W} (hb : ∀ e ∈ w, e.2.natAbs ≤ 1000) (h : 1000 * w.length ≤ 16777216) : callF gc 64 fs (d + 1) 14 [trW w] m = some (.lst ((singles w).map trS), m) := by
  rw [callS (fn := f14) rfl rfl]
  obtain ⟨z2, z3, hz⟩ := loop12 (cf := callF gc 64 fs d) w [] m (.val (trW w)) .none .none hb (by simpa using h)
  have hi : items 0 [trW w] = some (w.map trS) := rfl
  have pw : (trW w).pure = true := rfl
  rw [List.map_nil, List.nil_append] at hz
  simp [Rs.bind_ok, Rs.bind_no, Rs.of_some, q_var, q_mv, q_gl, q_int, q_str, q_bl, q_non, q_tup, q_lst, q_shd, q_disp, q_bin, q_neg, q_cmp, q_chain, q_and, q_or, q_not, q_notF, q_ite, q_idx, q_sl, q_rev, q_call, q_callK, q_bi, q_pop, q_comp, q_nil, q_cons, q_snil, q_scons, t_var, t_gl, t_bl, t_cmp, t_chain, t_idx, t_call, t_callK, t_bi, t_bin, s_set, s_own, s_ownOf, s_many, s_tgt, s_aug, s_put, s_app, s_ext, s_ex, s_ret, s_retN, s_ite, s_for, s_whl, s_brk, s_cont, s_pass, s_nil, s_cons, Ev.kVar, Ev.kMv, Ev.kTup, Ev.kLst, Ev.kShd, Ev.kBin2, Ev.kBin1, Ev.kNeg, Ev.kCmp2, Ev.kCmp1, Ev.kChain3, Ev.kChain2', Ev.kChain2, Ev.kChain1, Ev.kAnd, Ev.kOr, Ev.kNot, Ev.kIte, Ev.kIdxM, Ev.kIdx3, Ev.kIdx2, Ev.kIdx1, Ev.kSl3, Ev.kO, Ev.kSl2, Ev.kSl1, Ev.kRev, Ev.kRes, Ev.kCall, Ev.kCallK2, Ev.kCallK1, Ev.kBi, Ev.kPop2, Ev.kPop, Ev.kComp3, Ev.kCond, Ev.kElt, Ev.kComp2, Ev.kComp, Ev.kEs2, Ev.kEs1, Ev.kSt2, Ev.kSt3, Ev.kSt1, Ev.kDisp, Ev.kSet, Ev.kOwn, Ev.kOwnOf2, Ev.kOwnOf, Ev.kEnv, Ev.kMany, Ev.kTgt, Ev.kAug2, Ev.kAug, Ev.kPut5, Ev.kPut4, Ev.kPut3, Ev.kPut2, Ev.kPut1, Ev.kApp3, Ev.kApp2, Ev.kApp, Ev.kExt3, Ev.kExt2, Ev.kExt, Ev.kEx, Ev.kRet, Ev.kIf, Ev.kFor2, Ev.kFor, Ev.kSeq, kTruth_bl, p_non, d_non, p_bl, d_bl, p_int, d_int, p_str, d_str, p_tup, d_tup, p_lst, d_lst, p_flst, d_flst, p_ob, d_ob, p_bor, d_own, opB_add, opB_sub, opB_mod, opB_fdiv, opC2_lt, opC2_le, opC2_gt, opC2_ge, opC2_eqI, opC2_neI, opC2_eqS, opC2_neS, opC2_eqT, opC2_neT, opC2_eqL, opC2_neL, opC2_isN, opC2_isNI, opC2_inT, opC2_ninT, biT, idxT_tm, idxT_lm, idxT_t0, idxT_l0, idxT_t1, idxT_l1, idxT_t2, idxT_l2, idxT_t3, idxT_l3, idxT_t4, idxT_l4, idxT_t5, idxT_l5, ixN, asInt, isNul, done_ret, done_next, seqT, asg, asgs, manyGo, boolsT, allRep, Ev.sizeLine_eq, f14, b14, hi, pw, hz]
theorem run_len : ∀ (w : W) (f : Fo), (run f w).1.length ≤ f.1.length + w.length
  | [], f => Nat.le_refl _
  | (.x, k) :: w, f => by have := run_len w (step f (.x, k)); rw [run_cons]; simp only [step, List.length_cons] at this ⊢; exact Nat.le_trans this (by omega)
  | (.y, k) :: w, f => by have := run_len w (step f (.y, k)); rw [run_cons]; simp only [step, List.length_cons] at this ⊢; exact Nat.le_trans this (by omega)
  | (.t, k) :: w, (s, a, b) => by
    have := run_len w (step (s, a, b) (.t, k))
    have h2 := push_len (p := (-a, -b)) (k := k) (s := s)
    rw [run_cons]
    simp only [step, List.length_cons] at this ⊢
    exact Nat.le_trans this (by omega)
theorem loop6 {cf : CF} : ∀ (w : W) (f : Fo) (m : List Ob) (x0 x4 x5 x6 : Slot), (∀ e ∈ w, e.2 ≠ 0) → f.1.length + w.length < 16777216 → ∃ x4' x5' x6', forGo (.tp [.nm 4, .nm 5]) (exSs gc cf 64 l6_0) (w.map trS) ⟨[x0, .own (f.1.reverse.map trP), .val (.int f.2.1), .val (.int f.2.2), x4, x5, x6], m⟩ = .ok .next ⟨[x0, .own ((run f w).1.reverse.map trP), .val (.int (run f w).2.1), .val (.int (run f w).2.2), x4', x5', x6'], m⟩
  | [], f, m, x0, x4, x5, x6, hn, h => ⟨x4, x5, x6, rfl⟩
  | (l, k) :: w, (s, a, b), m, x0, x4, x5, x6, hn, h => by
    have hk : k ≠ 0 := hn (l, k) (by simp)
    have hs : s.length < 16777216 := by simp at h; omega
    have key : ∃ y6, exSs gc cf 64 l6_0 ⟨[x0, .own (s.reverse.map trP), .val (.int a), .val (.int b), .val (.str l.s), .val (.int k), x6], m⟩ = .ok .next ⟨[x0, .own ((step (s, a, b) (l, k)).1.reverse.map trP), .val (.int (step (s, a, b) (l, k)).2.1), .val (.int (step (s, a, b) (l, k)).2.2), .val (.str l.s), .val (.int k), y6], m⟩ := by
      cases l
      · refine ⟨x6, ?_⟩
        simp [Rs.bind_ok, Rs.bind_no, Rs.of_some, q_var, q_mv, q_gl, q_int, q_str, q_bl, q_non, q_tup, q_lst, q_shd, q_disp, q_bin, q_neg, q_cmp, q_chain, q_and, q_or, q_not, q_notF, q_ite, q_idx, q_sl, q_rev, q_call, q_callK, q_bi, q_pop, q_comp, q_nil, q_cons, q_snil, q_scons, t_var, t_gl, t_bl, t_cmp, t_chain, t_idx, t_call, t_callK, t_bi, t_bin, s_set, s_own, s_ownOf, s_many, s_tgt, s_aug, s_put, s_app, s_ext, s_ex, s_ret, s_retN, s_ite, s_for, s_whl, s_brk, s_cont, s_pass, s_nil, s_cons, Ev.kVar, Ev.kMv, Ev.kTup, Ev.kLst, Ev.kShd, Ev.kBin2, Ev.kBin1, Ev.kNeg, Ev.kCmp2, Ev.kCmp1, Ev.kChain3, Ev.kChain2', Ev.kChain2, Ev.kChain1, Ev.kAnd, Ev.kOr, Ev.kNot, Ev.kIte, Ev.kIdxM, Ev.kIdx3, Ev.kIdx2, Ev.kIdx1, Ev.kSl3, Ev.kO, Ev.kSl2, Ev.kSl1, Ev.kRev, Ev.kRes, Ev.kCall, Ev.kCallK2, Ev.kCallK1, Ev.kBi, Ev.kPop2, Ev.kPop, Ev.kComp3, Ev.kCond, Ev.kElt, Ev.kComp2, Ev.kComp, Ev.kEs2, Ev.kEs1, Ev.kSt2, Ev.kSt3, Ev.kSt1, Ev.kDisp, Ev.kSet, Ev.kOwn, Ev.kOwnOf2, Ev.kOwnOf, Ev.kEnv, Ev.kMany, Ev.kTgt, Ev.kAug2, Ev.kAug, Ev.kPut5, Ev.kPut4, Ev.kPut3, Ev.kPut2, Ev.kPut1, Ev.kApp3, Ev.kApp2, Ev.kApp, Ev.kExt3, Ev.kExt2, Ev.kExt, Ev.kEx, Ev.kRet, Ev.kIf, Ev.kFor2, Ev.kFor, Ev.kSeq, kTruth_bl, p_non, d_non, p_bl, d_bl, p_int, d_int, p_str, d_str, p_tup, d_tup, p_lst, d_lst, p_flst, d_flst, p_ob, d_ob, p_bor, d_own, opB_add, opB_sub, opB_mod, opB_fdiv, opC2_lt, opC2_le, opC2_gt, opC2_ge, opC2_eqI, opC2_neI, opC2_eqS, opC2_neS, opC2_eqT, opC2_neT, opC2_eqL, opC2_neL, opC2_isN, opC2_isNI, opC2_inT, opC2_ninT, biT, idxT_tm, idxT_lm, idxT_t0, idxT_l0, idxT_t1, idxT_l1, idxT_t2, idxT_l2, idxT_t3, idxT_l3, idxT_t4, idxT_l4, idxT_t5, idxT_l5, ixN, asInt, isNul, done_ret, done_next, seqT, asg, asgs, manyGo, boolsT, allRep, Ev.sizeLine_eq, l6_0, Le.s, step]
      · refine ⟨x6, ?_⟩
        simp [Rs.bind_ok, Rs.bind_no, Rs.of_some, q_var, q_mv, q_gl, q_int, q_str, q_bl, q_non, q_tup, q_lst, q_shd, q_disp, q_bin, q_neg, q_cmp, q_chain, q_and, q_or, q_not, q_notF, q_ite, q_idx, q_sl, q_rev, q_call, q_callK, q_bi, q_pop, q_comp, q_nil, q_cons, q_snil, q_scons, t_var, t_gl, t_bl, t_cmp, t_chain, t_idx, t_call, t_callK, t_bi, t_bin, s_set, s_own, s_ownOf, s_many, s_tgt, s_aug, s_put, s_app, s_ext, s_ex, s_ret, s_retN, s_ite, s_for, s_whl, s_brk, s_cont, s_pass, s_nil, s_cons, Ev.kVar, Ev.kMv, Ev.kTup, Ev.kLst, Ev.kShd, Ev.kBin2, Ev.kBin1, Ev.kNeg, Ev.kCmp2, Ev.kCmp1, Ev.kChain3, Ev.kChain2', Ev.kChain2, Ev.kChain1, Ev.kAnd, Ev.kOr, Ev.kNot, Ev.kIte, Ev.kIdxM, Ev.kIdx3, Ev.kIdx2, Ev.kIdx1, Ev.kSl3, Ev.kO, Ev.kSl2, Ev.kSl1, Ev.kRev, Ev.kRes, Ev.kCall, Ev.kCallK2, Ev.kCallK1, Ev.kBi, Ev.kPop2, Ev.kPop, Ev.kComp3, Ev.kCond, Ev.kElt, Ev.kComp2, Ev.kComp, Ev.kEs2, Ev.kEs1, Ev.kSt2, Ev.kSt3, Ev.kSt1, Ev.kDisp, Ev.kSet, Ev.kOwn, Ev.kOwnOf2, Ev.kOwnOf, Ev.kEnv, Ev.kMany, Ev.kTgt, Ev.kAug2, Ev.kAug, Ev.kPut5, Ev.kPut4, Ev.kPut3, Ev.kPut2, Ev.kPut1, Ev.kApp3, Ev.kApp2, Ev.kApp, Ev.kExt3, Ev.kExt2, Ev.kExt, Ev.kEx, Ev.kRet, Ev.kIf, Ev.kFor2, Ev.kFor, Ev.kSeq, kTruth_bl, p_non, d_non, p_bl, d_bl, p_int, d_int, p_str, d_str, p_tup, d_tup, p_lst, d_lst, p_flst, d_flst, p_ob, d_ob, p_bor, d_own, opB_add, opB_sub, opB_mod, opB_fdiv, opC2_lt, opC2_le, opC2_gt, opC2_ge, opC2_eqI, opC2_neI, opC2_eqS, opC2_neS, opC2_eqT, opC2_neT, opC2_eqL, opC2_neL, opC2_isN, opC2_isNI, opC2_inT, opC2_ninT, biT, idxT_tm, idxT_lm, idxT_t0, idxT_l0, idxT_t1, idxT_l1, idxT_t2, idxT_l2, idxT_t3, idxT_l3, idxT_t4, idxT_l4, idxT_t5, idxT_l5, ixN, asInt, isNul, done_ret, done_next, seqT, asg, asgs, manyGo, boolsT, allRep, Ev.sizeLine_eq, l6_0, Le.s, step, yx]
      · have ha : s.reverse.map trP ++ [.tup [.tup [.int (-a), .int (-b)], .int k]] = (((-a, -b), k) :: s).reverse.map trP := app_push ((-a, -b), k) s
        cases s with
        | nil =>
          have hnl : eqT (.lst []) (.lst []) = some true := nilP []
          refine ⟨x6, ?_⟩
          simp [Rs.bind_ok, Rs.bind_no, Rs.of_some, q_var, q_mv, q_gl, q_int, q_str, q_bl, q_non, q_tup, q_lst, q_shd, q_disp, q_bin, q_neg, q_cmp, q_chain, q_and, q_or, q_not, q_notF, q_ite, q_idx, q_sl, q_rev, q_call, q_callK, q_bi, q_pop, q_comp, q_nil, q_cons, q_snil, q_scons, t_var, t_gl, t_bl, t_cmp, t_chain, t_idx, t_call, t_callK, t_bi, t_bin, s_set, s_own, s_ownOf, s_many, s_tgt, s_aug, s_put, s_app, s_ext, s_ex, s_ret, s_retN, s_ite, s_for, s_whl, s_brk, s_cont, s_pass, s_nil, s_cons, Ev.kVar, Ev.kMv, Ev.kTup, Ev.kLst, Ev.kShd, Ev.kBin2, Ev.kBin1, Ev.kNeg, Ev.kCmp2, Ev.kCmp1, Ev.kChain3, Ev.kChain2', Ev.kChain2, Ev.kChain1, Ev.kAnd, Ev.kOr, Ev.kNot, Ev.kIte, Ev.kIdxM, Ev.kIdx3, Ev.kIdx2, Ev.kIdx1, Ev.kSl3, Ev.kO, Ev.kSl2, Ev.kSl1, Ev.kRev, Ev.kRes, Ev.kCall, Ev.kCallK2, Ev.kCallK1, Ev.kBi, Ev.kPop2, Ev.kPop, Ev.kComp3, Ev.kCond, Ev.kElt, Ev.kComp2, Ev.kComp, Ev.kEs2, Ev.kEs1, Ev.kSt2, Ev.kSt3, Ev.kSt1, Ev.kDisp, Ev.kSet, Ev.kOwn, Ev.kOwnOf2, Ev.kOwnOf, Ev.kEnv, Ev.kMany, Ev.kTgt, Ev.kAug2, Ev.kAug, Ev.kPut5, Ev.kPut4, Ev.kPut3, Ev.kPut2, Ev.kPut1, Ev.kApp3, Ev.kApp2, Ev.kApp, Ev.kExt3, Ev.kExt2, Ev.kExt, Ev.kEx, Ev.kRet, Ev.kIf, Ev.kFor2, Ev.kFor, Ev.kSeq, kTruth_bl, p_non, d_non, p_bl, d_bl, p_int, d_int, p_str, d_str, p_tup, d_tup, p_lst, d_lst, p_flst, d_flst, p_ob, d_ob, p_bor, d_own, opB_add, opB_sub, opB_mod, opB_fdiv, opC2_lt, opC2_le, opC2_gt, opC2_ge, opC2_eqI, opC2_neI, opC2_eqS, opC2_neS, opC2_eqT, opC2_neT, opC2_eqL, opC2_neL, opC2_isN, opC2_isNI, opC2_inT, opC2_ninT, biT, idxT_tm, idxT_lm, idxT_t0, idxT_l0, idxT_t1, idxT_l1, idxT_t2, idxT_l2, idxT_t3, idxT_l3, idxT_t4, idxT_l4, idxT_t5, idxT_l5, ixN, asInt, isNul, done_ret, done_next, seqT, asg, asgs, manyGo, boolsT, allRep, Ev.sizeLine_eq, l6_0, Le.s, step, tx, ty, hnl, hk, push_nil, trP]
        | cons e r =>
          have hnl := nilPr (e :: r)
          have hg := gl_cons e r
          have hd := dl_cons e r
          obtain ⟨⟨p, q⟩, j⟩ := e
          have hb : ∀ k : Int, r.reverse.map trP ++ [.tup [.tup [.int (-a), .int (-b)], .int k]] = (((-a, -b), k) :: r).reverse.map trP := fun k => app_push ((-a, -b), k) r
          have hr : r.length < 16777216 := by simp at hs; omega
          have e1 : step (((p, q), j) :: r, a, b) (.t, k) = (push (-a, -b) k (((p, q), j) :: r), a, b) := rfl
          rw [e1]
          generalize hL : (((p, q), j) :: r).reverse.map trP = L at hnl hg hd ha
          have hLl : L.length < 16777216 := by rw [← hL]; simpa using hs
          generalize hM : r.reverse.map trP = M at hb hd
          have hMl : M.length < 16777216 := by rw [← hM]; simpa using hr
          by_cases he : (p, q) = (-a, -b)
          · by_cases hz : k + j = 0
            · have hz2 : j + k = 0 := by omega
              refine ⟨.val (.int (j + k)), ?_⟩
              rw [push_cons, if_pos he, if_pos hz, hM]
              simp [Rs.bind_ok, Rs.bind_no, Rs.of_some, q_var, q_mv, q_gl, q_int, q_str, q_bl, q_non, q_tup, q_lst, q_shd, q_disp, q_bin, q_neg, q_cmp, q_chain, q_and, q_or, q_not, q_notF, q_ite, q_idx, q_sl, q_rev, q_call, q_callK, q_bi, q_pop, q_comp, q_nil, q_cons, q_snil, q_scons, t_var, t_gl, t_bl, t_cmp, t_chain, t_idx, t_call, t_callK, t_bi, t_bin, s_set, s_own, s_ownOf, s_many, s_tgt, s_aug, s_put, s_app, s_ext, s_ex, s_ret, s_retN, s_ite, s_for, s_whl, s_brk, s_cont, s_pass, s_nil, s_cons, Ev.kVar, Ev.kMv, Ev.kTup, Ev.kLst, Ev.kShd, Ev.kBin2, Ev.kBin1, Ev.kNeg, Ev.kCmp2, Ev.kCmp1, Ev.kChain3, Ev.kChain2', Ev.kChain2, Ev.kChain1, Ev.kAnd, Ev.kOr, Ev.kNot, Ev.kIte, Ev.kIdxM, Ev.kIdx3, Ev.kIdx2, Ev.kIdx1, Ev.kSl3, Ev.kO, Ev.kSl2, Ev.kSl1, Ev.kRev, Ev.kRes, Ev.kCall, Ev.kCallK2, Ev.kCallK1, Ev.kBi, Ev.kPop2, Ev.kPop, Ev.kComp3, Ev.kCond, Ev.kElt, Ev.kComp2, Ev.kComp, Ev.kEs2, Ev.kEs1, Ev.kSt2, Ev.kSt3, Ev.kSt1, Ev.kDisp, Ev.kSet, Ev.kOwn, Ev.kOwnOf2, Ev.kOwnOf, Ev.kEnv, Ev.kMany, Ev.kTgt, Ev.kAug2, Ev.kAug, Ev.kPut5, Ev.kPut4, Ev.kPut3, Ev.kPut2, Ev.kPut1, Ev.kApp3, Ev.kApp2, Ev.kApp, Ev.kExt3, Ev.kExt2, Ev.kExt, Ev.kEx, Ev.kRet, Ev.kIf, Ev.kFor2, Ev.kFor, Ev.kSeq, kTruth_bl, p_non, d_non, p_bl, d_bl, p_int, d_int, p_str, d_str, p_tup, d_tup, p_lst, d_lst, p_flst, d_flst, p_ob, d_ob, p_bor, d_own, opB_add, opB_sub, opB_mod, opB_fdiv, opC2_lt, opC2_le, opC2_gt, opC2_ge, opC2_eqI, opC2_neI, opC2_eqS, opC2_neS, opC2_eqT, opC2_neT, opC2_eqL, opC2_neL, opC2_isN, opC2_isNI, opC2_inT, opC2_ninT, biT, idxT_tm, idxT_lm, idxT_t0, idxT_l0, idxT_t1, idxT_l1, idxT_t2, idxT_l2, idxT_t3, idxT_l3, idxT_t4, idxT_l4, idxT_t5, idxT_l5, ixN, asInt, isNul, done_ret, done_next, seqT, asg, asgs, manyGo, boolsT, allRep, Ev.sizeLine_eq, l6_0, Le.s, tx, ty, hnl, hg, hd, trP, eqT_pair, he, hz2]
            · have hz2 : ¬ j + k = 0 := by omega
              refine ⟨.val (.int (j + k)), ?_⟩
              rw [push_cons, if_pos he, if_neg hz, ← hb, Int.add_comm k j]
              simp [Rs.bind_ok, Rs.bind_no, Rs.of_some, q_var, q_mv, q_gl, q_int, q_str, q_bl, q_non, q_tup, q_lst, q_shd, q_disp, q_bin, q_neg, q_cmp, q_chain, q_and, q_or, q_not, q_notF, q_ite, q_idx, q_sl, q_rev, q_call, q_callK, q_bi, q_pop, q_comp, q_nil, q_cons, q_snil, q_scons, t_var, t_gl, t_bl, t_cmp, t_chain, t_idx, t_call, t_callK, t_bi, t_bin, s_set, s_own, s_ownOf, s_many, s_tgt, s_aug, s_put, s_app, s_ext, s_ex, s_ret, s_retN, s_ite, s_for, s_whl, s_brk, s_cont, s_pass, s_nil, s_cons, Ev.kVar, Ev.kMv, Ev.kTup, Ev.kLst, Ev.kShd, Ev.kBin2, Ev.kBin1, Ev.kNeg, Ev.kCmp2, Ev.kCmp1, Ev.kChain3, Ev.kChain2', Ev.kChain2, Ev.kChain1, Ev.kAnd, Ev.kOr, Ev.kNot, Ev.kIte, Ev.kIdxM, Ev.kIdx3, Ev.kIdx2, Ev.kIdx1, Ev.kSl3, Ev.kO, Ev.kSl2, Ev.kSl1, Ev.kRev, Ev.kRes, Ev.kCall, Ev.kCallK2, Ev.kCallK1, Ev.kBi, Ev.kPop2, Ev.kPop, Ev.kComp3, Ev.kCond, Ev.kElt, Ev.kComp2, Ev.kComp, Ev.kEs2, Ev.kEs1, Ev.kSt2, Ev.kSt3, Ev.kSt1, Ev.kDisp, Ev.kSet, Ev.kOwn, Ev.kOwnOf2, Ev.kOwnOf, Ev.kEnv, Ev.kMany, Ev.kTgt, Ev.kAug2, Ev.kAug, Ev.kPut5, Ev.kPut4, Ev.kPut3, Ev.kPut2, Ev.kPut1, Ev.kApp3, Ev.kApp2, Ev.kApp, Ev.kExt3, Ev.kExt2, Ev.kExt, Ev.kEx, Ev.kRet, Ev.kIf, Ev.kFor2, Ev.kFor, Ev.kSeq, kTruth_bl, p_non, d_non, p_bl, d_bl, p_int, d_int, p_str, d_str, p_tup, d_tup, p_lst, d_lst, p_flst, d_flst, p_ob, d_ob, p_bor, d_own, opB_add, opB_sub, opB_mod, opB_fdiv, opC2_lt, opC2_le, opC2_gt, opC2_ge, opC2_eqI, opC2_neI, opC2_eqS, opC2_neS, opC2_eqT, opC2_neT, opC2_eqL, opC2_neL, opC2_isN, opC2_isNI, opC2_inT, opC2_ninT, biT, idxT_tm, idxT_lm, idxT_t0, idxT_l0, idxT_t1, idxT_l1, idxT_t2, idxT_l2, idxT_t3, idxT_l3, idxT_t4, idxT_l4, idxT_t5, idxT_l5, ixN, asInt, isNul, done_ret, done_next, seqT, asg, asgs, manyGo, boolsT, allRep, Ev.sizeLine_eq, l6_0, Le.s, tx, ty, hnl, hg, hd, trP, eqT_pair, he, hz2, hMl]
          · refine ⟨x6, ?_⟩
            rw [push_cons, if_neg he, if_neg hk, ← ha]
            simp [Rs.bind_ok, Rs.bind_no, Rs.of_some, q_var, q_mv, q_gl, q_int, q_str, q_bl, q_non, q_tup, q_lst, q_shd, q_disp, q_bin, q_neg, q_cmp, q_chain, q_and, q_or, q_not, q_notF, q_ite, q_idx, q_sl, q_rev, q_call, q_callK, q_bi, q_pop, q_comp, q_nil, q_cons, q_snil, q_scons, t_var, t_gl, t_bl, t_cmp, t_chain, t_idx, t_call, t_callK, t_bi, t_bin, s_set, s_own, s_ownOf, s_many, s_tgt, s_aug, s_put, s_app, s_ext, s_ex, s_ret, s_retN, s_ite, s_for, s_whl, s_brk, s_cont, s_pass, s_nil, s_cons, Ev.kVar, Ev.kMv, Ev.kTup, Ev.kLst, Ev.kShd, Ev.kBin2, Ev.kBin1, Ev.kNeg, Ev.kCmp2, Ev.kCmp1, Ev.kChain3, Ev.kChain2', Ev.kChain2, Ev.kChain1, Ev.kAnd, Ev.kOr, Ev.kNot, Ev.kIte, Ev.kIdxM, Ev.kIdx3, Ev.kIdx2, Ev.kIdx1, Ev.kSl3, Ev.kO, Ev.kSl2, Ev.kSl1, Ev.kRev, Ev.kRes, Ev.kCall, Ev.kCallK2, Ev.kCallK1, Ev.kBi, Ev.kPop2, Ev.kPop, Ev.kComp3, Ev.kCond, Ev.kElt, Ev.kComp2, Ev.kComp, Ev.kEs2, Ev.kEs1, Ev.kSt2, Ev.kSt3, Ev.kSt1, Ev.kDisp, Ev.kSet, Ev.kOwn, Ev.kOwnOf2, Ev.kOwnOf, Ev.kEnv, Ev.kMany, Ev.kTgt, Ev.kAug2, Ev.kAug, Ev.kPut5, Ev.kPut4, Ev.kPut3, Ev.kPut2, Ev.kPut1, Ev.kApp3, Ev.kApp2, Ev.kApp, Ev.kExt3, Ev.kExt2, Ev.kExt, Ev.kEx, Ev.kRet, Ev.kIf, Ev.kFor2, Ev.kFor, Ev.kSeq, kTruth_bl, p_non, d_non, p_bl, d_bl, p_int, d_int, p_str, d_str, p_tup, d_tup, p_lst, d_lst, p_flst, d_flst, p_ob, d_ob, p_bor, d_own, opB_add, opB_sub, opB_mod, opB_fdiv, opC2_lt, opC2_le, opC2_gt, opC2_ge, opC2_eqI, opC2_neI, opC2_eqS, opC2_neS, opC2_eqT, opC2_neT, opC2_eqL, opC2_neL, opC2_isN, opC2_isNI, opC2_inT, opC2_ninT, biT, idxT_tm, idxT_lm, idxT_t0, idxT_l0, idxT_t1, idxT_l1, idxT_t2, idxT_l2, idxT_t3, idxT_l3, idxT_t4, idxT_l4, idxT_t5, idxT_l5, ixN, asInt, isNul, done_ret, done_next, seqT, asg, asgs, manyGo, boolsT, allRep, Ev.sizeLine_eq, l6_0, Le.s, tx, ty, hnl, hg, hd, trP, eqT_pair, he, hLl]
    obtain ⟨y6, hy⟩ := key
    have hl : (step (s, a, b) (l, k)).1.length + w.length < 16777216 := by
      have := run_len [(l, k)] (s, a, b)
      simp only [run, List.foldl, List.length_cons, List.length_nil] at this h
      omega
    obtain ⟨z4, z5, z6, hz⟩ := loop6 w (step (s, a, b) (l, k)) m x0 (.val (.str l.s)) (.val (.int k)) y6 (fun e he => hn e (by simp [he])) hl
    refine ⟨z4, z5, z6, ?_⟩
    rw [List.map_cons, forGo_cons (env := [x0, .own (s.reverse.map trP), .val (.int a), .val (.int b), .val (.str l.s), .val (.int k), x6]) (by simp [asg, asgs, trS, p_str, p_int]) hy, hz]
    rfl
theorem singles_nz {w : W} : ∀ e ∈ singles w, e.2 ≠ 0 := by
  intro e he
  unfold singles at he
  obtain ⟨f, _, hf⟩ := List.mem_flatMap.mp he
  obtain ⟨_, rfl⟩ := List.mem_replicate.mp hf
  unfold sgn
  dsimp only
  split <;> omega
theorem singles_len : ∀ {w : W}, (∀ e ∈ w, e.2.natAbs ≤ 1000) → (singles w).length ≤ 1000 * w.length
  | [], _ => by simp [singles]
  | e :: w, h => by
    have h1 := h e (by simp)
    have h2 := singles_len (w := w) fun f hf => h f (by simp [hf])
    show (List.replicate e.2.natAbs (e.1, sgn e.2) ++ singles w).length ≤ _
    rw [List.length_append, List.length_replicate, List.length_cons]
    omega
theorem by_letters {d : Nat} {m : List Ob} {w : W} (hb : ∀ e ∈ w, e.2.natAbs ≤ 1000) (h : 1000 * w.length < 16777216) : callF gc 64 fs (d + 2) 6 [trW w] m = some (trF (run ([], 0, 0) w), m) := by
  rw [callS (fn := f6) rfl rfl]
  have hs := singles_of (d := d) (m := m) hb (Nat.le_of_lt h)
  obtain ⟨z4, z5, z6, hz⟩ := loop6 (cf := callF gc 64 fs (d + 1)) (singles w) ([], 0, 0) m (.val (trW w)) .none .none .none singles_nz (by have := singles_len hb; simp; omega)
  rw [run_singles (f := ([], 0, 0)) trivial] at hz
  have hi : items 0 [.lst ((singles w).map trS)] = some ((singles w).map trS) := rfl
  have pw : (trW w).pure = true := rfl
  rw [List.reverse_nil, List.map_nil] at hz
  rw [trF]
  generalize run ([], 0, 0) w = f at hz
  generalize (singles w).map trS = L at hi hs hz
  simp [Rs.bind_ok, Rs.bind_no, Rs.of_some, q_var, q_mv, q_gl, q_int, q_str, q_bl, q_non, q_tup, q_lst, q_shd, q_disp, q_bin, q_neg, q_cmp, q_chain, q_and, q_or, q_not, q_notF, q_ite, q_idx, q_sl, q_rev, q_call, q_callK, q_bi, q_pop, q_comp, q_nil, q_cons, q_snil, q_scons, t_var, t_gl, t_bl, t_cmp, t_chain, t_idx, t_call, t_callK, t_bi, t_bin, s_set, s_own, s_ownOf, s_many, s_tgt, s_aug, s_put, s_app, s_ext, s_ex, s_ret, s_retN, s_ite, s_for, s_whl, s_brk, s_cont, s_pass, s_nil, s_cons, Ev.kVar, Ev.kMv, Ev.kTup, Ev.kLst, Ev.kShd, Ev.kBin2, Ev.kBin1, Ev.kNeg, Ev.kCmp2, Ev.kCmp1, Ev.kChain3, Ev.kChain2', Ev.kChain2, Ev.kChain1, Ev.kAnd, Ev.kOr, Ev.kNot, Ev.kIte, Ev.kIdxM, Ev.kIdx3, Ev.kIdx2, Ev.kIdx1, Ev.kSl3, Ev.kO, Ev.kSl2, Ev.kSl1, Ev.kRev, Ev.kRes, Ev.kCall, Ev.kCallK2, Ev.kCallK1, Ev.kBi, Ev.kPop2, Ev.kPop, Ev.kComp3, Ev.kCond, Ev.kElt, Ev.kComp2, Ev.kComp, Ev.kEs2, Ev.kEs1, Ev.kSt2, Ev.kSt3, Ev.kSt1, Ev.kDisp, Ev.kSet, Ev.kOwn, Ev.kOwnOf2, Ev.kOwnOf, Ev.kEnv, Ev.kMany, Ev.kTgt, Ev.kAug2, Ev.kAug, Ev.kPut5, Ev.kPut4, Ev.kPut3, Ev.kPut2, Ev.kPut1, Ev.kApp3, Ev.kApp2, Ev.kApp, Ev.kExt3, Ev.kExt2, Ev.kExt, Ev.kEx, Ev.kRet, Ev.kIf, Ev.kFor2, Ev.kFor, Ev.kSeq, kTruth_bl, p_non, d_non, p_bl, d_bl, p_int, d_int, p_str, d_str, p_tup, d_tup, p_lst, d_lst, p_flst, d_flst, p_ob, d_ob, p_bor, d_own, opB_add, opB_sub, opB_mod, opB_fdiv, opC2_lt, opC2_le, opC2_gt, opC2_ge, opC2_eqI, opC2_neI, opC2_eqS, opC2_neS, opC2_eqT, opC2_neT, opC2_eqL, opC2_neL, opC2_isN, opC2_isNI, opC2_inT, opC2_ninT, biT, idxT_tm, idxT_lm, idxT_t0, idxT_l0, idxT_t1, idxT_l1, idxT_t2, idxT_l2, idxT_t3, idxT_l3, idxT_t4, idxT_l4, idxT_t5, idxT_l5, ixN, asInt, isNul, done_ret, done_next, seqT, asg, asgs, manyGo, boolsT, allRep, Ev.sizeLine_eq, f6, b6, pw, hs, hi, hz]
theorem wholes2 {d : Nat} {m : List Ob} {a b : Int} : callF gc 64 fs (d + 2) 31 [.tup [.int a, .int b], .int 2] m = some (.bl true, m) := by
  rw [callS (fn := f31) rfl rfl]
  have e1 : ∀ d m, callF gc 64 fs (d + 1) 29 [.tup [.int a, .int b], .int 2, .int 2] m = some (.bl true, m) := fun d m => tuple rfl
  have e : ∀ x : Slot, compGo (compF (.nm 2) [.val (.tup [.int a, .int b]), .val (.int 2), x] (kCond gc (callF gc 64 fs (d + 1)) .nul) (kElt gc (callF gc 64 fs (d + 1)) e31_0)) [.int a, .int b] m [] = some (List.replicate 2 (.bl true), m) := fun x => by
    refine comp_true (xs := [.int a, .int b]) (fun y hy => ?_) (by simp [Ev.sizeLine_eq])
    obtain ⟨i, rfl⟩ : ∃ i : Int, y = .int i := by
      rcases List.mem_cons.mp hy with rfl | hy
      · exact ⟨a, rfl⟩
      · rcases List.mem_cons.mp hy with rfl | hy
        · exact ⟨b, rfl⟩
        · cases hy
    simp [Rs.bind_ok, Rs.bind_no, Rs.of_some, q_var, q_mv, q_gl, q_int, q_str, q_bl, q_non, q_tup, q_lst, q_shd, q_disp, q_bin, q_neg, q_cmp, q_chain, q_and, q_or, q_not, q_notF, q_ite, q_idx, q_sl, q_rev, q_call, q_callK, q_bi, q_pop, q_comp, q_nil, q_cons, q_snil, q_scons, t_var, t_gl, t_bl, t_cmp, t_chain, t_idx, t_call, t_callK, t_bi, t_bin, s_set, s_own, s_ownOf, s_many, s_tgt, s_aug, s_put, s_app, s_ext, s_ex, s_ret, s_retN, s_ite, s_for, s_whl, s_brk, s_cont, s_pass, s_nil, s_cons, Ev.kVar, Ev.kMv, Ev.kTup, Ev.kLst, Ev.kShd, Ev.kBin2, Ev.kBin1, Ev.kNeg, Ev.kCmp2, Ev.kCmp1, Ev.kChain3, Ev.kChain2', Ev.kChain2, Ev.kChain1, Ev.kAnd, Ev.kOr, Ev.kNot, Ev.kIte, Ev.kIdxM, Ev.kIdx3, Ev.kIdx2, Ev.kIdx1, Ev.kSl3, Ev.kO, Ev.kSl2, Ev.kSl1, Ev.kRev, Ev.kRes, Ev.kCall, Ev.kCallK2, Ev.kCallK1, Ev.kBi, Ev.kPop2, Ev.kPop, Ev.kComp3, Ev.kCond, Ev.kElt, Ev.kComp2, Ev.kComp, Ev.kEs2, Ev.kEs1, Ev.kSt2, Ev.kSt3, Ev.kSt1, Ev.kDisp, Ev.kSet, Ev.kOwn, Ev.kOwnOf2, Ev.kOwnOf, Ev.kEnv, Ev.kMany, Ev.kTgt, Ev.kAug2, Ev.kAug, Ev.kPut5, Ev.kPut4, Ev.kPut3, Ev.kPut2, Ev.kPut1, Ev.kApp3, Ev.kApp2, Ev.kApp, Ev.kExt3, Ev.kExt2, Ev.kExt, Ev.kEx, Ev.kRet, Ev.kIf, Ev.kFor2, Ev.kFor, Ev.kSeq, kTruth_bl, p_non, d_non, p_bl, d_bl, p_int, d_int, p_str, d_str, p_tup, d_tup, p_lst, d_lst, p_flst, d_flst, p_ob, d_ob, p_bor, d_own, opB_add, opB_sub, opB_mod, opB_fdiv, opC2_lt, opC2_le, opC2_gt, opC2_ge, opC2_eqI, opC2_neI, opC2_eqS, opC2_neS, opC2_eqT, opC2_neT, opC2_eqL, opC2_neL, opC2_isN, opC2_isNI, opC2_inT, opC2_ninT, biT, idxT_tm, idxT_lm, idxT_t0, idxT_l0, idxT_t1, idxT_l1, idxT_t2, idxT_l2, idxT_t3, idxT_l3, idxT_t4, idxT_l4, idxT_t5, idxT_l5, ixN, asInt, isNul, done_ret, done_next, seqT, asg, asgs, manyGo, boolsT, allRep, Ev.sizeLine_eq, compF, whole, e31_0]
  simp [Rs.bind_ok, Rs.bind_no, Rs.of_some, q_var, q_mv, q_gl, q_int, q_str, q_bl, q_non, q_tup, q_lst, q_shd, q_disp, q_bin, q_neg, q_cmp, q_chain, q_and, q_or, q_not, q_notF, q_ite, q_idx, q_sl, q_rev, q_call, q_callK, q_bi, q_pop, q_comp, q_nil, q_cons, q_snil, q_scons, t_var, t_gl, t_bl, t_cmp, t_chain, t_idx, t_call, t_callK, t_bi, t_bin, s_set, s_own, s_ownOf, s_many, s_tgt, s_aug, s_put, s_app, s_ext, s_ex, s_ret, s_retN, s_ite, s_for, s_whl, s_brk, s_cont, s_pass, s_nil, s_cons, Ev.kVar, Ev.kMv, Ev.kTup, Ev.kLst, Ev.kShd, Ev.kBin2, Ev.kBin1, Ev.kNeg, Ev.kCmp2, Ev.kCmp1, Ev.kChain3, Ev.kChain2', Ev.kChain2, Ev.kChain1, Ev.kAnd, Ev.kOr, Ev.kNot, Ev.kIte, Ev.kIdxM, Ev.kIdx3, Ev.kIdx2, Ev.kIdx1, Ev.kSl3, Ev.kO, Ev.kSl2, Ev.kSl1, Ev.kRev, Ev.kRes, Ev.kCall, Ev.kCallK2, Ev.kCallK1, Ev.kBi, Ev.kPop2, Ev.kPop, Ev.kComp3, Ev.kCond, Ev.kElt, Ev.kComp2, Ev.kComp, Ev.kEs2, Ev.kEs1, Ev.kSt2, Ev.kSt3, Ev.kSt1, Ev.kDisp, Ev.kSet, Ev.kOwn, Ev.kOwnOf2, Ev.kOwnOf, Ev.kEnv, Ev.kMany, Ev.kTgt, Ev.kAug2, Ev.kAug, Ev.kPut5, Ev.kPut4, Ev.kPut3, Ev.kPut2, Ev.kPut1, Ev.kApp3, Ev.kApp2, Ev.kApp, Ev.kExt3, Ev.kExt2, Ev.kExt, Ev.kEx, Ev.kRet, Ev.kIf, Ev.kFor2, Ev.kFor, Ev.kSeq, kTruth_bl, p_non, d_non, p_bl, d_bl, p_int, d_int, p_str, d_str, p_tup, d_tup, p_lst, d_lst, p_flst, d_flst, p_ob, d_ob, p_bor, d_own, opB_add, opB_sub, opB_mod, opB_fdiv, opC2_lt, opC2_le, opC2_gt, opC2_ge, opC2_eqI, opC2_neI, opC2_eqS, opC2_neS, opC2_eqT, opC2_neT, opC2_eqL, opC2_neL, opC2_isN, opC2_isNI, opC2_inT, opC2_ninT, biT, idxT_tm, idxT_lm, idxT_t0, idxT_l0, idxT_t1, idxT_l1, idxT_t2, idxT_l2, idxT_t3, idxT_l3, idxT_t4, idxT_l4, idxT_t5, idxT_l5, ixN, asInt, isNul, done_ret, done_next, seqT, asg, asgs, manyGo, boolsT, allRep, Ev.sizeLine_eq, f31, b31, items, wipeE, Slot.lock, e, e1]
  rfl
theorem pair2 {d : Nat} {m : List Ob} {a b : Int} : callF gc 64 fs (d + 3) 24 [.tup [.int a, .int b]] m = some (.bl true, m) := by
  rw [callS (fn := f24) rfl rfl]
  simp [Rs.bind_ok, Rs.bind_no, Rs.of_some, q_var, q_mv, q_gl, q_int, q_str, q_bl, q_non, q_tup, q_lst, q_shd, q_disp, q_bin, q_neg, q_cmp, q_chain, q_and, q_or, q_not, q_notF, q_ite, q_idx, q_sl, q_rev, q_call, q_callK, q_bi, q_pop, q_comp, q_nil, q_cons, q_snil, q_scons, t_var, t_gl, t_bl, t_cmp, t_chain, t_idx, t_call, t_callK, t_bi, t_bin, s_set, s_own, s_ownOf, s_many, s_tgt, s_aug, s_put, s_app, s_ext, s_ex, s_ret, s_retN, s_ite, s_for, s_whl, s_brk, s_cont, s_pass, s_nil, s_cons, Ev.kVar, Ev.kMv, Ev.kTup, Ev.kLst, Ev.kShd, Ev.kBin2, Ev.kBin1, Ev.kNeg, Ev.kCmp2, Ev.kCmp1, Ev.kChain3, Ev.kChain2', Ev.kChain2, Ev.kChain1, Ev.kAnd, Ev.kOr, Ev.kNot, Ev.kIte, Ev.kIdxM, Ev.kIdx3, Ev.kIdx2, Ev.kIdx1, Ev.kSl3, Ev.kO, Ev.kSl2, Ev.kSl1, Ev.kRev, Ev.kRes, Ev.kCall, Ev.kCallK2, Ev.kCallK1, Ev.kBi, Ev.kPop2, Ev.kPop, Ev.kComp3, Ev.kCond, Ev.kElt, Ev.kComp2, Ev.kComp, Ev.kEs2, Ev.kEs1, Ev.kSt2, Ev.kSt3, Ev.kSt1, Ev.kDisp, Ev.kSet, Ev.kOwn, Ev.kOwnOf2, Ev.kOwnOf, Ev.kEnv, Ev.kMany, Ev.kTgt, Ev.kAug2, Ev.kAug, Ev.kPut5, Ev.kPut4, Ev.kPut3, Ev.kPut2, Ev.kPut1, Ev.kApp3, Ev.kApp2, Ev.kApp, Ev.kExt3, Ev.kExt2, Ev.kExt, Ev.kEx, Ev.kRet, Ev.kIf, Ev.kFor2, Ev.kFor, Ev.kSeq, kTruth_bl, p_non, d_non, p_bl, d_bl, p_int, d_int, p_str, d_str, p_tup, d_tup, p_lst, d_lst, p_flst, d_flst, p_ob, d_ob, p_bor, d_own, opB_add, opB_sub, opB_mod, opB_fdiv, opC2_lt, opC2_le, opC2_gt, opC2_ge, opC2_eqI, opC2_neI, opC2_eqS, opC2_neS, opC2_eqT, opC2_neT, opC2_eqL, opC2_neL, opC2_isN, opC2_isNI, opC2_inT, opC2_ninT, biT, idxT_tm, idxT_lm, idxT_t0, idxT_l0, idxT_t1, idxT_l1, idxT_t2, idxT_l2, idxT_t3, idxT_l3, idxT_t4, idxT_l4, idxT_t5, idxT_l5, ixN, asInt, isNul, done_ret, done_next, seqT, asg, asgs, manyGo, boolsT, allRep, Ev.sizeLine_eq, f24, b24, g4, wholes2]
theorem is_moved {d : Nat} {m : List Ob} {e : It} (h : e.2 ≠ 0) : callF gc 64 fs (d + 4) 30 [trP e] m = some (.bl true, m) := by
  rw [callS (fn := f30) rfl rfl]
  obtain ⟨⟨a, b⟩, k⟩ := e
  have e1 : ∀ d m, callF gc 64 fs (d + 1) 29 [.tup [.tup [.int a, .int b], .int k], .int 2, .int 2] m = some (.bl true, m) := fun d m => tuple rfl
  simp [Rs.bind_ok, Rs.bind_no, Rs.of_some, q_var, q_mv, q_gl, q_int, q_str, q_bl, q_non, q_tup, q_lst, q_shd, q_disp, q_bin, q_neg, q_cmp, q_chain, q_and, q_or, q_not, q_notF, q_ite, q_idx, q_sl, q_rev, q_call, q_callK, q_bi, q_pop, q_comp, q_nil, q_cons, q_snil, q_scons, t_var, t_gl, t_bl, t_cmp, t_chain, t_idx, t_call, t_callK, t_bi, t_bin, s_set, s_own, s_ownOf, s_many, s_tgt, s_aug, s_put, s_app, s_ext, s_ex, s_ret, s_retN, s_ite, s_for, s_whl, s_brk, s_cont, s_pass, s_nil, s_cons, Ev.kVar, Ev.kMv, Ev.kTup, Ev.kLst, Ev.kShd, Ev.kBin2, Ev.kBin1, Ev.kNeg, Ev.kCmp2, Ev.kCmp1, Ev.kChain3, Ev.kChain2', Ev.kChain2, Ev.kChain1, Ev.kAnd, Ev.kOr, Ev.kNot, Ev.kIte, Ev.kIdxM, Ev.kIdx3, Ev.kIdx2, Ev.kIdx1, Ev.kSl3, Ev.kO, Ev.kSl2, Ev.kSl1, Ev.kRev, Ev.kRes, Ev.kCall, Ev.kCallK2, Ev.kCallK1, Ev.kBi, Ev.kPop2, Ev.kPop, Ev.kComp3, Ev.kCond, Ev.kElt, Ev.kComp2, Ev.kComp, Ev.kEs2, Ev.kEs1, Ev.kSt2, Ev.kSt3, Ev.kSt1, Ev.kDisp, Ev.kSet, Ev.kOwn, Ev.kOwnOf2, Ev.kOwnOf, Ev.kEnv, Ev.kMany, Ev.kTgt, Ev.kAug2, Ev.kAug, Ev.kPut5, Ev.kPut4, Ev.kPut3, Ev.kPut2, Ev.kPut1, Ev.kApp3, Ev.kApp2, Ev.kApp, Ev.kExt3, Ev.kExt2, Ev.kExt, Ev.kEx, Ev.kRet, Ev.kIf, Ev.kFor2, Ev.kFor, Ev.kSeq, kTruth_bl, p_non, d_non, p_bl, d_bl, p_int, d_int, p_str, d_str, p_tup, d_tup, p_lst, d_lst, p_flst, d_flst, p_ob, d_ob, p_bor, d_own, opB_add, opB_sub, opB_mod, opB_fdiv, opC2_lt, opC2_le, opC2_gt, opC2_ge, opC2_eqI, opC2_neI, opC2_eqS, opC2_neS, opC2_eqT, opC2_neT, opC2_eqL, opC2_neL, opC2_isN, opC2_isNI, opC2_inT, opC2_ninT, biT, idxT_tm, idxT_lm, idxT_t0, idxT_l0, idxT_t1, idxT_l1, idxT_t2, idxT_l2, idxT_t3, idxT_l3, idxT_t4, idxT_l4, idxT_t5, idxT_l5, ixN, asInt, isNul, done_ret, done_next, seqT, asg, asgs, manyGo, boolsT, allRep, Ev.sizeLine_eq, f30, b30, trP, g4, e1, pair2, whole, h]
theorem Red.nz : ∀ {s : List It}, Red s → ∀ e ∈ s, e.2 ≠ 0
  | [], _, e, h => by cases h
  | f :: r, hr, e, h => by
    rcases List.mem_cons.mp h with rfl | h
    · exact hr.1
    · exact hr.2.2.nz e h
theorem Red.adj : ∀ {s : List It}, Red s → ∀ (i : Nat) a b, s[i]? = some a → s[i + 1]? = some b → a.1 ≠ b.1
  | [], _, i, a, b, h, _ => by simp at h
  | f :: r, hr, 0, a, b, h, h' => by
    simp at h h'
    subst h
    exact hr.2.1 b (by rw [List.head?_eq_getElem?]; simpa using h')
  | f :: r, hr, i + 1, a, b, h, h' => hr.2.2.adj i a b (by simpa using h) (by simpa using h')
theorem Red.zip {s : List It} (h : Red s) : ∀ p ∈ List.zip s.reverse (s.reverse.drop 1), p.1.1 ≠ p.2.1 := by
  intro p hp
  obtain ⟨i, hi⟩ := List.getElem?_of_mem hp
  rw [List.getElem?_zip_eq_some, List.getElem?_drop] at hi
  obtain ⟨h1, h2⟩ := hi
  have l2 : 1 + i < s.length := by have := (List.getElem?_eq_some_iff.mp h2).1; simpa using this
  rw [List.getElem?_reverse (by omega)] at h1
  rw [List.getElem?_reverse (by omega)] at h2
  have := h.adj (s.length - 1 - (1 + i)) p.2 p.1 h2 (by rw [show s.length - 1 - (1 + i) + 1 = s.length - 1 - i by omega]; exact h1)
  exact fun z => this z.symm
theorem cut1 (l : List Tr) : cutT l (some 1) none = l.drop 1 := by
  unfold cutT HT.sIx
  cases l with
  | nil => rfl
  | cons a r =>
    have e : min (1 : Int).toNat (a :: r).length = 1 := by simp
    simp only [show ¬ ((1 : Int) < 0) by omega, if_false, e]
    exact List.take_of_length_le (by simp)
theorem zip_trees (l k : List It) : zipT (l.map trP) (k.map trP) = (List.zip l k).map fun p => .tup [trP p.1, trP p.2] := by
  unfold zipT
  rw [List.zip_eq_zipWith, List.map_zipWith, List.zipWith_map]
theorem is_form {d : Nat} {m : List Ob} {f : Fo} (h : Red f.1) (hl : f.1.length < 16777216) : callF gc 64 fs (d + 5) 22 [trF f] m = some (.bl true, m) := by
  rw [callS (fn := f22) rfl rfl]
  obtain ⟨s, a, b⟩ := f
  replace hl : s.length < 16777216 := hl
  have e1 : ∀ d m l, callF gc 64 fs (d + 1) 29 [.tup [l, .int a, .int b], .int 3, .int 3] m = some (.bl true, m) := fun d m l => tuple rfl
  have e2 : ∀ (x : Tr) y z, compGo (compF (.nm 1) [.val x, y, z] (kCond gc (callF gc 64 fs (d + 4)) .nul) (kElt gc (callF gc 64 fs (d + 4)) e22_0)) (s.reverse.map trP) m [] = some (List.replicate (s.reverse.map trP).length (.bl true), m) := fun x y z => by
    refine comp_true (fun t ht => ?_) (by simpa [Ev.sizeLine_eq] using Nat.le_of_lt hl)
    obtain ⟨e, he, rfl⟩ := List.mem_map.mp ht
    have hm := is_moved (d := d) (m := m) (h.nz e (List.mem_reverse.mp he))
    have hp : (trP e).pure = true := rfl
    simp [Rs.bind_ok, Rs.bind_no, Rs.of_some, q_var, q_mv, q_gl, q_int, q_str, q_bl, q_non, q_tup, q_lst, q_shd, q_disp, q_bin, q_neg, q_cmp, q_chain, q_and, q_or, q_not, q_notF, q_ite, q_idx, q_sl, q_rev, q_call, q_callK, q_bi, q_pop, q_comp, q_nil, q_cons, q_snil, q_scons, t_var, t_gl, t_bl, t_cmp, t_chain, t_idx, t_call, t_callK, t_bi, t_bin, s_set, s_own, s_ownOf, s_many, s_tgt, s_aug, s_put, s_app, s_ext, s_ex, s_ret, s_retN, s_ite, s_for, s_whl, s_brk, s_cont, s_pass, s_nil, s_cons, Ev.kVar, Ev.kMv, Ev.kTup, Ev.kLst, Ev.kShd, Ev.kBin2, Ev.kBin1, Ev.kNeg, Ev.kCmp2, Ev.kCmp1, Ev.kChain3, Ev.kChain2', Ev.kChain2, Ev.kChain1, Ev.kAnd, Ev.kOr, Ev.kNot, Ev.kIte, Ev.kIdxM, Ev.kIdx3, Ev.kIdx2, Ev.kIdx1, Ev.kSl3, Ev.kO, Ev.kSl2, Ev.kSl1, Ev.kRev, Ev.kRes, Ev.kCall, Ev.kCallK2, Ev.kCallK1, Ev.kBi, Ev.kPop2, Ev.kPop, Ev.kComp3, Ev.kCond, Ev.kElt, Ev.kComp2, Ev.kComp, Ev.kEs2, Ev.kEs1, Ev.kSt2, Ev.kSt3, Ev.kSt1, Ev.kDisp, Ev.kSet, Ev.kOwn, Ev.kOwnOf2, Ev.kOwnOf, Ev.kEnv, Ev.kMany, Ev.kTgt, Ev.kAug2, Ev.kAug, Ev.kPut5, Ev.kPut4, Ev.kPut3, Ev.kPut2, Ev.kPut1, Ev.kApp3, Ev.kApp2, Ev.kApp, Ev.kExt3, Ev.kExt2, Ev.kExt, Ev.kEx, Ev.kRet, Ev.kIf, Ev.kFor2, Ev.kFor, Ev.kSeq, kTruth_bl, p_non, d_non, p_bl, d_bl, p_int, d_int, p_str, d_str, p_tup, d_tup, p_lst, d_lst, p_flst, d_flst, p_ob, d_ob, p_bor, d_own, opB_add, opB_sub, opB_mod, opB_fdiv, opC2_lt, opC2_le, opC2_gt, opC2_ge, opC2_eqI, opC2_neI, opC2_eqS, opC2_neS, opC2_eqT, opC2_neT, opC2_eqL, opC2_neL, opC2_isN, opC2_isNI, opC2_inT, opC2_ninT, biT, idxT_tm, idxT_lm, idxT_t0, idxT_l0, idxT_t1, idxT_l1, idxT_t2, idxT_l2, idxT_t3, idxT_l3, idxT_t4, idxT_l4, idxT_t5, idxT_l5, ixN, asInt, isNul, done_ret, done_next, seqT, asg, asgs, manyGo, boolsT, allRep, Ev.sizeLine_eq, compF, hm, hp, e22_0]
  have e3 : ∀ (x : Tr) y z, compGo (compF (.tp [.nm 1, .nm 2]) [.val x, y, z] (kCond gc (callF gc 64 fs (d + 4)) .nul) (kElt gc (callF gc 64 fs (d + 4)) e22_1)) (zipT (s.reverse.map trP) ((s.reverse.drop 1).map trP)) m [] = some (List.replicate (zipT (s.reverse.map trP) ((s.reverse.drop 1).map trP)).length (.bl true), m) := fun x y z => by
    refine comp_true (fun t ht => ?_) (by unfold zipT; simp [Ev.sizeLine_eq]; omega)
    rw [zip_trees] at ht
    obtain ⟨p, hp, rfl⟩ := List.mem_map.mp ht
    have hz := h.zip p hp
    obtain ⟨⟨⟨p1, p2⟩, p3⟩, ⟨⟨q1, q2⟩, q3⟩⟩ := p
    simp [Rs.bind_ok, Rs.bind_no, Rs.of_some, q_var, q_mv, q_gl, q_int, q_str, q_bl, q_non, q_tup, q_lst, q_shd, q_disp, q_bin, q_neg, q_cmp, q_chain, q_and, q_or, q_not, q_notF, q_ite, q_idx, q_sl, q_rev, q_call, q_callK, q_bi, q_pop, q_comp, q_nil, q_cons, q_snil, q_scons, t_var, t_gl, t_bl, t_cmp, t_chain, t_idx, t_call, t_callK, t_bi, t_bin, s_set, s_own, s_ownOf, s_many, s_tgt, s_aug, s_put, s_app, s_ext, s_ex, s_ret, s_retN, s_ite, s_for, s_whl, s_brk, s_cont, s_pass, s_nil, s_cons, Ev.kVar, Ev.kMv, Ev.kTup, Ev.kLst, Ev.kShd, Ev.kBin2, Ev.kBin1, Ev.kNeg, Ev.kCmp2, Ev.kCmp1, Ev.kChain3, Ev.kChain2', Ev.kChain2, Ev.kChain1, Ev.kAnd, Ev.kOr, Ev.kNot, Ev.kIte, Ev.kIdxM, Ev.kIdx3, Ev.kIdx2, Ev.kIdx1, Ev.kSl3, Ev.kO, Ev.kSl2, Ev.kSl1, Ev.kRev, Ev.kRes, Ev.kCall, Ev.kCallK2, Ev.kCallK1, Ev.kBi, Ev.kPop2, Ev.kPop, Ev.kComp3, Ev.kCond, Ev.kElt, Ev.kComp2, Ev.kComp, Ev.kEs2, Ev.kEs1, Ev.kSt2, Ev.kSt3, Ev.kSt1, Ev.kDisp, Ev.kSet, Ev.kOwn, Ev.kOwnOf2, Ev.kOwnOf, Ev.kEnv, Ev.kMany, Ev.kTgt, Ev.kAug2, Ev.kAug, Ev.kPut5, Ev.kPut4, Ev.kPut3, Ev.kPut2, Ev.kPut1, Ev.kApp3, Ev.kApp2, Ev.kApp, Ev.kExt3, Ev.kExt2, Ev.kExt, Ev.kEx, Ev.kRet, Ev.kIf, Ev.kFor2, Ev.kFor, Ev.kSeq, kTruth_bl, p_non, d_non, p_bl, d_bl, p_int, d_int, p_str, d_str, p_tup, d_tup, p_lst, d_lst, p_flst, d_flst, p_ob, d_ob, p_bor, d_own, opB_add, opB_sub, opB_mod, opB_fdiv, opC2_lt, opC2_le, opC2_gt, opC2_ge, opC2_eqI, opC2_neI, opC2_eqS, opC2_neS, opC2_eqT, opC2_neT, opC2_eqL, opC2_neL, opC2_isN, opC2_isNI, opC2_inT, opC2_ninT, biT, idxT_tm, idxT_lm, idxT_t0, idxT_l0, idxT_t1, idxT_l1, idxT_t2, idxT_l2, idxT_t3, idxT_l3, idxT_t4, idxT_l4, idxT_t5, idxT_l5, ixN, asInt, isNul, done_ret, done_next, seqT, asg, asgs, manyGo, boolsT, allRep, Ev.sizeLine_eq, compF, e22_1, trP, eqT_pair, hz]
  have e4 : cutT (s.reverse.map trP) (some 1) none = (s.reverse.drop 1).map trP := by rw [cut1, List.map_drop]
  rw [trF]
  generalize hL : s.reverse.map trP = L at e2 e3 e4
  generalize hM : (s.reverse.drop 1).map trP = M at e3 e4
  generalize hZ : zipT L M = Z at e3
  have hi : items 4 [.tup L, .tup M] = some Z := by rw [← hZ]; rfl
  have hi0 : items 0 [.tup L] = some L := rfl
  have hs : slT (.tup L) (some 1) none = some (.tup M) := by rw [← e4]; rfl
  simp [Rs.bind_ok, Rs.bind_no, Rs.of_some, q_var, q_mv, q_gl, q_int, q_str, q_bl, q_non, q_tup, q_lst, q_shd, q_disp, q_bin, q_neg, q_cmp, q_chain, q_and, q_or, q_not, q_notF, q_ite, q_idx, q_sl, q_rev, q_call, q_callK, q_bi, q_pop, q_comp, q_nil, q_cons, q_snil, q_scons, t_var, t_gl, t_bl, t_cmp, t_chain, t_idx, t_call, t_callK, t_bi, t_bin, s_set, s_own, s_ownOf, s_many, s_tgt, s_aug, s_put, s_app, s_ext, s_ex, s_ret, s_retN, s_ite, s_for, s_whl, s_brk, s_cont, s_pass, s_nil, s_cons, Ev.kVar, Ev.kMv, Ev.kTup, Ev.kLst, Ev.kShd, Ev.kBin2, Ev.kBin1, Ev.kNeg, Ev.kCmp2, Ev.kCmp1, Ev.kChain3, Ev.kChain2', Ev.kChain2, Ev.kChain1, Ev.kAnd, Ev.kOr, Ev.kNot, Ev.kIte, Ev.kIdxM, Ev.kIdx3, Ev.kIdx2, Ev.kIdx1, Ev.kSl3, Ev.kO, Ev.kSl2, Ev.kSl1, Ev.kRev, Ev.kRes, Ev.kCall, Ev.kCallK2, Ev.kCallK1, Ev.kBi, Ev.kPop2, Ev.kPop, Ev.kComp3, Ev.kCond, Ev.kElt, Ev.kComp2, Ev.kComp, Ev.kEs2, Ev.kEs1, Ev.kSt2, Ev.kSt3, Ev.kSt1, Ev.kDisp, Ev.kSet, Ev.kOwn, Ev.kOwnOf2, Ev.kOwnOf, Ev.kEnv, Ev.kMany, Ev.kTgt, Ev.kAug2, Ev.kAug, Ev.kPut5, Ev.kPut4, Ev.kPut3, Ev.kPut2, Ev.kPut1, Ev.kApp3, Ev.kApp2, Ev.kApp, Ev.kExt3, Ev.kExt2, Ev.kExt, Ev.kEx, Ev.kRet, Ev.kIf, Ev.kFor2, Ev.kFor, Ev.kSeq, kTruth_bl, p_non, d_non, p_bl, d_bl, p_int, d_int, p_str, d_str, p_tup, d_tup, p_lst, d_lst, p_flst, d_flst, p_ob, d_ob, p_bor, d_own, opB_add, opB_sub, opB_mod, opB_fdiv, opC2_lt, opC2_le, opC2_gt, opC2_ge, opC2_eqI, opC2_neI, opC2_eqS, opC2_neS, opC2_eqT, opC2_neT, opC2_eqL, opC2_neL, opC2_isN, opC2_isNI, opC2_inT, opC2_ninT, biT, idxT_tm, idxT_lm, idxT_t0, idxT_l0, idxT_t1, idxT_l1, idxT_t2, idxT_l2, idxT_t3, idxT_l3, idxT_t4, idxT_l4, idxT_t5, idxT_l5, ixN, asInt, isNul, done_ret, done_next, seqT, asg, asgs, manyGo, boolsT, allRep, Ev.sizeLine_eq, f22, b22, g3, e1, whole, wipeE, Slot.lock, hi, hi0, hs, e2, e3]
theorem check_form {d : Nat} {m : List Ob} {f : Fo} (h : Red f.1) (hl : f.1.length < 16777216) : callF gc 64 fs (d + 6) 15 [trF f] m = some (.non, m) := by
  rw [callS (fn := f15) rfl rfl]
  have pf : (trF f).pure = true := rfl
  simp [Rs.bind_ok, Rs.bind_no, Rs.of_some, q_var, q_mv, q_gl, q_int, q_str, q_bl, q_non, q_tup, q_lst, q_shd, q_disp, q_bin, q_neg, q_cmp, q_chain, q_and, q_or, q_not, q_notF, q_ite, q_idx, q_sl, q_rev, q_call, q_callK, q_bi, q_pop, q_comp, q_nil, q_cons, q_snil, q_scons, t_var, t_gl, t_bl, t_cmp, t_chain, t_idx, t_call, t_callK, t_bi, t_bin, s_set, s_own, s_ownOf, s_many, s_tgt, s_aug, s_put, s_app, s_ext, s_ex, s_ret, s_retN, s_ite, s_for, s_whl, s_brk, s_cont, s_pass, s_nil, s_cons, Ev.kVar, Ev.kMv, Ev.kTup, Ev.kLst, Ev.kShd, Ev.kBin2, Ev.kBin1, Ev.kNeg, Ev.kCmp2, Ev.kCmp1, Ev.kChain3, Ev.kChain2', Ev.kChain2, Ev.kChain1, Ev.kAnd, Ev.kOr, Ev.kNot, Ev.kIte, Ev.kIdxM, Ev.kIdx3, Ev.kIdx2, Ev.kIdx1, Ev.kSl3, Ev.kO, Ev.kSl2, Ev.kSl1, Ev.kRev, Ev.kRes, Ev.kCall, Ev.kCallK2, Ev.kCallK1, Ev.kBi, Ev.kPop2, Ev.kPop, Ev.kComp3, Ev.kCond, Ev.kElt, Ev.kComp2, Ev.kComp, Ev.kEs2, Ev.kEs1, Ev.kSt2, Ev.kSt3, Ev.kSt1, Ev.kDisp, Ev.kSet, Ev.kOwn, Ev.kOwnOf2, Ev.kOwnOf, Ev.kEnv, Ev.kMany, Ev.kTgt, Ev.kAug2, Ev.kAug, Ev.kPut5, Ev.kPut4, Ev.kPut3, Ev.kPut2, Ev.kPut1, Ev.kApp3, Ev.kApp2, Ev.kApp, Ev.kExt3, Ev.kExt2, Ev.kExt, Ev.kEx, Ev.kRet, Ev.kIf, Ev.kFor2, Ev.kFor, Ev.kSeq, kTruth_bl, p_non, d_non, p_bl, d_bl, p_int, d_int, p_str, d_str, p_tup, d_tup, p_lst, d_lst, p_flst, d_flst, p_ob, d_ob, p_bor, d_own, opB_add, opB_sub, opB_mod, opB_fdiv, opC2_lt, opC2_le, opC2_gt, opC2_ge, opC2_eqI, opC2_neI, opC2_eqS, opC2_neS, opC2_eqT, opC2_neT, opC2_eqL, opC2_neL, opC2_isN, opC2_isNI, opC2_inT, opC2_ninT, biT, idxT_tm, idxT_lm, idxT_t0, idxT_l0, idxT_t1, idxT_l1, idxT_t2, idxT_l2, idxT_t3, idxT_l3, idxT_t4, idxT_l4, idxT_t5, idxT_l5, ixN, asInt, isNul, done_ret, done_next, seqT, asg, asgs, manyGo, boolsT, allRep, Ev.sizeLine_eq, f15, b15, is_form h hl, pf]
def gS : Tr → Option Tr
  | .tup [a, .int k] => if k = 0 then none else some (.tup [a, .int k])
  | _ => none
theorem gS_map : ∀ w : W, (w.map trS).filterMap gS = (w.filter fun e => decide (e.2 ≠ 0)).map trS
  | [] => rfl
  | (l, k) :: w => by
    by_cases hk : k = 0
    · subst hk
      rw [List.map_cons, List.filterMap_cons_none (by rfl), gS_map w, List.filter_cons_of_neg (by simp)]
    · rw [List.map_cons, List.filterMap_cons_some (b := trS (l, k)) (by show (if k = 0 then none else _) = _; rw [if_neg hk]; rfl), gS_map w, List.filter_cons_of_pos (by simpa using hk)]
      rfl
theorem moved22 {d : Nat} {m : List Ob} {e : It} : callF gc 64 fs (d + 1) 26 [.tup [.int e.1.1, .int e.1.2], .int e.2] m = some (.tup ((moved e).map trS), m) := by
  rw [callS (fn := f26) rfl rfl]
  obtain ⟨⟨a, b⟩, k⟩ := e
  have e1 : ∀ x0 x1 x2 x3 x4 : Slot, compGo (compF (.nm 5) [x0, x1, x2, x3, x4, .none] (kCond gc (callF gc 64 fs d) c26_1) (kElt gc (callF gc 64 fs d) e26_0)) (([(.y, -b), (.x, -a), (.t, k), (.x, a), (.y, b)] : W).map trS) m [] = some ((moved ((a, b), k)).map trS, m) := fun x0 x1 x2 x3 x4 => by
    rw [compGo_map (g := gS) (fun t ht => ?_) (by simp [Ev.sizeLine_eq]), gS_map]
    · rfl
    · obtain ⟨⟨l, i⟩, _, rfl⟩ := List.mem_map.mp ht
      by_cases hi : i = 0
      · simp [Rs.bind_ok, Rs.bind_no, Rs.of_some, q_var, q_mv, q_gl, q_int, q_str, q_bl, q_non, q_tup, q_lst, q_shd, q_disp, q_bin, q_neg, q_cmp, q_chain, q_and, q_or, q_not, q_notF, q_ite, q_idx, q_sl, q_rev, q_call, q_callK, q_bi, q_pop, q_comp, q_nil, q_cons, q_snil, q_scons, t_var, t_gl, t_bl, t_cmp, t_chain, t_idx, t_call, t_callK, t_bi, t_bin, s_set, s_own, s_ownOf, s_many, s_tgt, s_aug, s_put, s_app, s_ext, s_ex, s_ret, s_retN, s_ite, s_for, s_whl, s_brk, s_cont, s_pass, s_nil, s_cons, Ev.kVar, Ev.kMv, Ev.kTup, Ev.kLst, Ev.kShd, Ev.kBin2, Ev.kBin1, Ev.kNeg, Ev.kCmp2, Ev.kCmp1, Ev.kChain3, Ev.kChain2', Ev.kChain2, Ev.kChain1, Ev.kAnd, Ev.kOr, Ev.kNot, Ev.kIte, Ev.kIdxM, Ev.kIdx3, Ev.kIdx2, Ev.kIdx1, Ev.kSl3, Ev.kO, Ev.kSl2, Ev.kSl1, Ev.kRev, Ev.kRes, Ev.kCall, Ev.kCallK2, Ev.kCallK1, Ev.kBi, Ev.kPop2, Ev.kPop, Ev.kComp3, Ev.kCond, Ev.kElt, Ev.kComp2, Ev.kComp, Ev.kEs2, Ev.kEs1, Ev.kSt2, Ev.kSt3, Ev.kSt1, Ev.kDisp, Ev.kSet, Ev.kOwn, Ev.kOwnOf2, Ev.kOwnOf, Ev.kEnv, Ev.kMany, Ev.kTgt, Ev.kAug2, Ev.kAug, Ev.kPut5, Ev.kPut4, Ev.kPut3, Ev.kPut2, Ev.kPut1, Ev.kApp3, Ev.kApp2, Ev.kApp, Ev.kExt3, Ev.kExt2, Ev.kExt, Ev.kEx, Ev.kRet, Ev.kIf, Ev.kFor2, Ev.kFor, Ev.kSeq, kTruth_bl, p_non, d_non, p_bl, d_bl, p_int, d_int, p_str, d_str, p_tup, d_tup, p_lst, d_lst, p_flst, d_flst, p_ob, d_ob, p_bor, d_own, opB_add, opB_sub, opB_mod, opB_fdiv, opC2_lt, opC2_le, opC2_gt, opC2_ge, opC2_eqI, opC2_neI, opC2_eqS, opC2_neS, opC2_eqT, opC2_neT, opC2_eqL, opC2_neL, opC2_isN, opC2_isNI, opC2_inT, opC2_ninT, biT, idxT_tm, idxT_lm, idxT_t0, idxT_l0, idxT_t1, idxT_l1, idxT_t2, idxT_l2, idxT_t3, idxT_l3, idxT_t4, idxT_l4, idxT_t5, idxT_l5, ixN, asInt, isNul, done_ret, done_next, seqT, asg, asgs, manyGo, boolsT, allRep, Ev.sizeLine_eq, compF, c26_1, e26_0, trS, gS, hi]
      · simp [Rs.bind_ok, Rs.bind_no, Rs.of_some, q_var, q_mv, q_gl, q_int, q_str, q_bl, q_non, q_tup, q_lst, q_shd, q_disp, q_bin, q_neg, q_cmp, q_chain, q_and, q_or, q_not, q_notF, q_ite, q_idx, q_sl, q_rev, q_call, q_callK, q_bi, q_pop, q_comp, q_nil, q_cons, q_snil, q_scons, t_var, t_gl, t_bl, t_cmp, t_chain, t_idx, t_call, t_callK, t_bi, t_bin, s_set, s_own, s_ownOf, s_many, s_tgt, s_aug, s_put, s_app, s_ext, s_ex, s_ret, s_retN, s_ite, s_for, s_whl, s_brk, s_cont, s_pass, s_nil, s_cons, Ev.kVar, Ev.kMv, Ev.kTup, Ev.kLst, Ev.kShd, Ev.kBin2, Ev.kBin1, Ev.kNeg, Ev.kCmp2, Ev.kCmp1, Ev.kChain3, Ev.kChain2', Ev.kChain2, Ev.kChain1, Ev.kAnd, Ev.kOr, Ev.kNot, Ev.kIte, Ev.kIdxM, Ev.kIdx3, Ev.kIdx2, Ev.kIdx1, Ev.kSl3, Ev.kO, Ev.kSl2, Ev.kSl1, Ev.kRev, Ev.kRes, Ev.kCall, Ev.kCallK2, Ev.kCallK1, Ev.kBi, Ev.kPop2, Ev.kPop, Ev.kComp3, Ev.kCond, Ev.kElt, Ev.kComp2, Ev.kComp, Ev.kEs2, Ev.kEs1, Ev.kSt2, Ev.kSt3, Ev.kSt1, Ev.kDisp, Ev.kSet, Ev.kOwn, Ev.kOwnOf2, Ev.kOwnOf, Ev.kEnv, Ev.kMany, Ev.kTgt, Ev.kAug2, Ev.kAug, Ev.kPut5, Ev.kPut4, Ev.kPut3, Ev.kPut2, Ev.kPut1, Ev.kApp3, Ev.kApp2, Ev.kApp, Ev.kExt3, Ev.kExt2, Ev.kExt, Ev.kEx, Ev.kRet, Ev.kIf, Ev.kFor2, Ev.kFor, Ev.kSeq, kTruth_bl, p_non, d_non, p_bl, d_bl, p_int, d_int, p_str, d_str, p_tup, d_tup, p_lst, d_lst, p_flst, d_flst, p_ob, d_ob, p_bor, d_own, opB_add, opB_sub, opB_mod, opB_fdiv, opC2_lt, opC2_le, opC2_gt, opC2_ge, opC2_eqI, opC2_neI, opC2_eqS, opC2_neS, opC2_eqT, opC2_neT, opC2_eqL, opC2_neL, opC2_isN, opC2_isNI, opC2_inT, opC2_ninT, biT, idxT_tm, idxT_lm, idxT_t0, idxT_l0, idxT_t1, idxT_l1, idxT_t2, idxT_l2, idxT_t3, idxT_l3, idxT_t4, idxT_l4, idxT_t5, idxT_l5, ixN, asInt, isNul, done_ret, done_next, seqT, asg, asgs, manyGo, boolsT, allRep, Ev.sizeLine_eq, compF, c26_1, e26_0, trS, gS, hi]
  have e2 : (([(.y, -b), (.x, -a), (.t, k), (.x, a), (.y, b)] : W).map trS) = [.tup [.str "y", .int (-b)], .tup [.str "x", .int (-a)], .tup [.str "t", .int k], .tup [.str "x", .int a], .tup [.str "y", .int b]] := rfl
  rw [e2] at e1
  simp [Rs.bind_ok, Rs.bind_no, Rs.of_some, q_var, q_mv, q_gl, q_int, q_str, q_bl, q_non, q_tup, q_lst, q_shd, q_disp, q_bin, q_neg, q_cmp, q_chain, q_and, q_or, q_not, q_notF, q_ite, q_idx, q_sl, q_rev, q_call, q_callK, q_bi, q_pop, q_comp, q_nil, q_cons, q_snil, q_scons, t_var, t_gl, t_bl, t_cmp, t_chain, t_idx, t_call, t_callK, t_bi, t_bin, s_set, s_own, s_ownOf, s_many, s_tgt, s_aug, s_put, s_app, s_ext, s_ex, s_ret, s_retN, s_ite, s_for, s_whl, s_brk, s_cont, s_pass, s_nil, s_cons, Ev.kVar, Ev.kMv, Ev.kTup, Ev.kLst, Ev.kShd, Ev.kBin2, Ev.kBin1, Ev.kNeg, Ev.kCmp2, Ev.kCmp1, Ev.kChain3, Ev.kChain2', Ev.kChain2, Ev.kChain1, Ev.kAnd, Ev.kOr, Ev.kNot, Ev.kIte, Ev.kIdxM, Ev.kIdx3, Ev.kIdx2, Ev.kIdx1, Ev.kSl3, Ev.kO, Ev.kSl2, Ev.kSl1, Ev.kRev, Ev.kRes, Ev.kCall, Ev.kCallK2, Ev.kCallK1, Ev.kBi, Ev.kPop2, Ev.kPop, Ev.kComp3, Ev.kCond, Ev.kElt, Ev.kComp2, Ev.kComp, Ev.kEs2, Ev.kEs1, Ev.kSt2, Ev.kSt3, Ev.kSt1, Ev.kDisp, Ev.kSet, Ev.kOwn, Ev.kOwnOf2, Ev.kOwnOf, Ev.kEnv, Ev.kMany, Ev.kTgt, Ev.kAug2, Ev.kAug, Ev.kPut5, Ev.kPut4, Ev.kPut3, Ev.kPut2, Ev.kPut1, Ev.kApp3, Ev.kApp2, Ev.kApp, Ev.kExt3, Ev.kExt2, Ev.kExt, Ev.kEx, Ev.kRet, Ev.kIf, Ev.kFor2, Ev.kFor, Ev.kSeq, kTruth_bl, p_non, d_non, p_bl, d_bl, p_int, d_int, p_str, d_str, p_tup, d_tup, p_lst, d_lst, p_flst, d_flst, p_ob, d_ob, p_bor, d_own, opB_add, opB_sub, opB_mod, opB_fdiv, opC2_lt, opC2_le, opC2_gt, opC2_ge, opC2_eqI, opC2_neI, opC2_eqS, opC2_neS, opC2_eqT, opC2_neT, opC2_eqL, opC2_neL, opC2_isN, opC2_isNI, opC2_inT, opC2_ninT, biT, idxT_tm, idxT_lm, idxT_t0, idxT_l0, idxT_t1, idxT_l1, idxT_t2, idxT_l2, idxT_t3, idxT_l3, idxT_t4, idxT_l4, idxT_t5, idxT_l5, ixN, asInt, isNul, done_ret, done_next, seqT, asg, asgs, manyGo, boolsT, allRep, Ev.sizeLine_eq, f26, b26, g1, g2, g5, items, wipeE, Slot.lock, e1]
theorem glS (e : Le × Int) (r : W) : ((e :: r).reverse.map trS).getLast? = some (trS e) := by simp
theorem dlS (e : Le × Int) (r : W) : ((e :: r).reverse.map trS).dropLast = r.reverse.map trS := by simp
theorem app_S (e : Le × Int) (r : W) : r.reverse.map trS ++ [trS e] = (e :: r).reverse.map trS := by simp
theorem nilSr (s : W) : eqT (.lst (s.reverse.map trS)) (.lst []) = some s.isEmpty := by rw [nilS]; cases s <;> simp
theorem lpush_len {e : Le × Int} {s : W} : (lpush e s).length ≤ s.length + 1 := by
  cases s with
  | nil => rw [lpush_nil]; split <;> simp
  | cons f r => rw [lpush_cons]; repeat' split
                all_goals first | (simp; done) | (simp only [List.length_cons]; omega)
theorem lpush_zero {l : Le} {s : W} (h : ∀ f ∈ s, f.2 ≠ 0) : lpush (l, 0) s = s := by
  cases s with
  | nil => rfl
  | cons f r =>
    have h1 := h f (by simp)
    obtain ⟨l', j⟩ := f
    rw [lpush_cons]
    split
    · rename_i he
      dsimp only at he h1 ⊢
      rw [if_neg (by omega), ← he, Int.zero_add]
    · rfl
def freeGo (v w : W) : W := w.foldl (fun s e => lpush e s) v
theorem loop23 {cf : CF} : ∀ (w v : W) (m : List Ob) (x0 x2 x3 : Slot), (∀ f ∈ v, f.2 ≠ 0) → v.length + w.length < 16777216 → ∃ x2' x3', forGo (.tp [.nm 2, .nm 3]) (exSs gc cf 64 l27_0) (w.map trS) ⟨[x0, .own (v.reverse.map trS), x2, x3], m⟩ = .ok .next ⟨[x0, .own ((freeGo v w).reverse.map trS), x2', x3'], m⟩
  | [], v, m, x0, x2, x3, hn, h => ⟨x2, x3, rfl⟩
  | (l, k) :: w, v, m, x0, x2, x3, hn, h => by
    have hs : v.length < 16777216 := by simp at h; omega
    have key : ∃ y3, exSs gc cf 64 l27_0 ⟨[x0, .own (v.reverse.map trS), .val (.str l.s), .val (.int k)], m⟩ = .ok .next ⟨[x0, .own ((lpush (l, k) v).reverse.map trS), .val (.str l.s), y3], m⟩ := by
      have ha : v.reverse.map trS ++ [.tup [.str l.s, .int k]] = ((l, k) :: v).reverse.map trS := app_S (l, k) v
      have hin : inT (.str l.s) (.tup [.str "x", .str "y", .str "t"]) = some true := by cases l <;> rfl
      by_cases hk : k = 0
      · subst hk
        rw [lpush_zero hn]
        refine ⟨.val (.int 0), ?_⟩
        simp [Rs.bind_ok, Rs.bind_no, Rs.of_some, q_var, q_mv, q_gl, q_int, q_str, q_bl, q_non, q_tup, q_lst, q_shd, q_disp, q_bin, q_neg, q_cmp, q_chain, q_and, q_or, q_not, q_notF, q_ite, q_idx, q_sl, q_rev, q_call, q_callK, q_bi, q_pop, q_comp, q_nil, q_cons, q_snil, q_scons, t_var, t_gl, t_bl, t_cmp, t_chain, t_idx, t_call, t_callK, t_bi, t_bin, s_set, s_own, s_ownOf, s_many, s_tgt, s_aug, s_put, s_app, s_ext, s_ex, s_ret, s_retN, s_ite, s_for, s_whl, s_brk, s_cont, s_pass, s_nil, s_cons, Ev.kVar, Ev.kMv, Ev.kTup, Ev.kLst, Ev.kShd, Ev.kBin2, Ev.kBin1, Ev.kNeg, Ev.kCmp2, Ev.kCmp1, Ev.kChain3, Ev.kChain2', Ev.kChain2, Ev.kChain1, Ev.kAnd, Ev.kOr, Ev.kNot, Ev.kIte, Ev.kIdxM, Ev.kIdx3, Ev.kIdx2, Ev.kIdx1, Ev.kSl3, Ev.kO, Ev.kSl2, Ev.kSl1, Ev.kRev, Ev.kRes, Ev.kCall, Ev.kCallK2, Ev.kCallK1, Ev.kBi, Ev.kPop2, Ev.kPop, Ev.kComp3, Ev.kCond, Ev.kElt, Ev.kComp2, Ev.kComp, Ev.kEs2, Ev.kEs1, Ev.kSt2, Ev.kSt3, Ev.kSt1, Ev.kDisp, Ev.kSet, Ev.kOwn, Ev.kOwnOf2, Ev.kOwnOf, Ev.kEnv, Ev.kMany, Ev.kTgt, Ev.kAug2, Ev.kAug, Ev.kPut5, Ev.kPut4, Ev.kPut3, Ev.kPut2, Ev.kPut1, Ev.kApp3, Ev.kApp2, Ev.kApp, Ev.kExt3, Ev.kExt2, Ev.kExt, Ev.kEx, Ev.kRet, Ev.kIf, Ev.kFor2, Ev.kFor, Ev.kSeq, kTruth_bl, p_non, d_non, p_bl, d_bl, p_int, d_int, p_str, d_str, p_tup, d_tup, p_lst, d_lst, p_flst, d_flst, p_ob, d_ob, p_bor, d_own, opB_add, opB_sub, opB_mod, opB_fdiv, opC2_lt, opC2_le, opC2_gt, opC2_ge, opC2_eqI, opC2_neI, opC2_eqS, opC2_neS, opC2_eqT, opC2_neT, opC2_eqL, opC2_neL, opC2_isN, opC2_isNI, opC2_inT, opC2_ninT, biT, idxT_tm, idxT_lm, idxT_t0, idxT_l0, idxT_t1, idxT_l1, idxT_t2, idxT_l2, idxT_t3, idxT_l3, idxT_t4, idxT_l4, idxT_t5, idxT_l5, ixN, asInt, isNul, done_ret, done_next, seqT, asg, asgs, manyGo, boolsT, allRep, Ev.sizeLine_eq, l27_0]
      cases v with
      | nil =>
        have hnl : eqT (.lst []) (.lst []) = some true := nilP []
        refine ⟨.val (.int k), ?_⟩
        simp [Rs.bind_ok, Rs.bind_no, Rs.of_some, q_var, q_mv, q_gl, q_int, q_str, q_bl, q_non, q_tup, q_lst, q_shd, q_disp, q_bin, q_neg, q_cmp, q_chain, q_and, q_or, q_not, q_notF, q_ite, q_idx, q_sl, q_rev, q_call, q_callK, q_bi, q_pop, q_comp, q_nil, q_cons, q_snil, q_scons, t_var, t_gl, t_bl, t_cmp, t_chain, t_idx, t_call, t_callK, t_bi, t_bin, s_set, s_own, s_ownOf, s_many, s_tgt, s_aug, s_put, s_app, s_ext, s_ex, s_ret, s_retN, s_ite, s_for, s_whl, s_brk, s_cont, s_pass, s_nil, s_cons, Ev.kVar, Ev.kMv, Ev.kTup, Ev.kLst, Ev.kShd, Ev.kBin2, Ev.kBin1, Ev.kNeg, Ev.kCmp2, Ev.kCmp1, Ev.kChain3, Ev.kChain2', Ev.kChain2, Ev.kChain1, Ev.kAnd, Ev.kOr, Ev.kNot, Ev.kIte, Ev.kIdxM, Ev.kIdx3, Ev.kIdx2, Ev.kIdx1, Ev.kSl3, Ev.kO, Ev.kSl2, Ev.kSl1, Ev.kRev, Ev.kRes, Ev.kCall, Ev.kCallK2, Ev.kCallK1, Ev.kBi, Ev.kPop2, Ev.kPop, Ev.kComp3, Ev.kCond, Ev.kElt, Ev.kComp2, Ev.kComp, Ev.kEs2, Ev.kEs1, Ev.kSt2, Ev.kSt3, Ev.kSt1, Ev.kDisp, Ev.kSet, Ev.kOwn, Ev.kOwnOf2, Ev.kOwnOf, Ev.kEnv, Ev.kMany, Ev.kTgt, Ev.kAug2, Ev.kAug, Ev.kPut5, Ev.kPut4, Ev.kPut3, Ev.kPut2, Ev.kPut1, Ev.kApp3, Ev.kApp2, Ev.kApp, Ev.kExt3, Ev.kExt2, Ev.kExt, Ev.kEx, Ev.kRet, Ev.kIf, Ev.kFor2, Ev.kFor, Ev.kSeq, kTruth_bl, p_non, d_non, p_bl, d_bl, p_int, d_int, p_str, d_str, p_tup, d_tup, p_lst, d_lst, p_flst, d_flst, p_ob, d_ob, p_bor, d_own, opB_add, opB_sub, opB_mod, opB_fdiv, opC2_lt, opC2_le, opC2_gt, opC2_ge, opC2_eqI, opC2_neI, opC2_eqS, opC2_neS, opC2_eqT, opC2_neT, opC2_eqL, opC2_neL, opC2_isN, opC2_isNI, opC2_inT, opC2_ninT, biT, idxT_tm, idxT_lm, idxT_t0, idxT_l0, idxT_t1, idxT_l1, idxT_t2, idxT_l2, idxT_t3, idxT_l3, idxT_t4, idxT_l4, idxT_t5, idxT_l5, ixN, asInt, isNul, done_ret, done_next, seqT, asg, asgs, manyGo, boolsT, allRep, Ev.sizeLine_eq, l27_0, hnl, hk, lpush_nil, trS]
      | cons e r =>
        have hnl := nilSr (e :: r)
        have hg := glS e r
        have hd := dlS e r
        have hj := hn e (by simp)
        obtain ⟨l', j⟩ := e
        have hb : ∀ k : Int, r.reverse.map trS ++ [.tup [.str l.s, .int k]] = ((l, k) :: r).reverse.map trS := fun k => app_S (l, k) r
        have hr : r.length < 16777216 := by simp at hs; omega
        generalize hL : ((l', j) :: r).reverse.map trS = L at hnl hg hd ha
        have hLl : L.length < 16777216 := by rw [← hL]; simpa using hs
        generalize hM : r.reverse.map trS = M at hb hd
        have hMl : M.length < 16777216 := by rw [← hM]; simpa using hr
        by_cases he : l' = l
        · by_cases hz : k + j = 0
          · refine ⟨.val (.int (k + j)), ?_⟩
            rw [lpush_cons, if_pos he, if_pos hz, hM]
            simp [Rs.bind_ok, Rs.bind_no, Rs.of_some, q_var, q_mv, q_gl, q_int, q_str, q_bl, q_non, q_tup, q_lst, q_shd, q_disp, q_bin, q_neg, q_cmp, q_chain, q_and, q_or, q_not, q_notF, q_ite, q_idx, q_sl, q_rev, q_call, q_callK, q_bi, q_pop, q_comp, q_nil, q_cons, q_snil, q_scons, t_var, t_gl, t_bl, t_cmp, t_chain, t_idx, t_call, t_callK, t_bi, t_bin, s_set, s_own, s_ownOf, s_many, s_tgt, s_aug, s_put, s_app, s_ext, s_ex, s_ret, s_retN, s_ite, s_for, s_whl, s_brk, s_cont, s_pass, s_nil, s_cons, Ev.kVar, Ev.kMv, Ev.kTup, Ev.kLst, Ev.kShd, Ev.kBin2, Ev.kBin1, Ev.kNeg, Ev.kCmp2, Ev.kCmp1, Ev.kChain3, Ev.kChain2', Ev.kChain2, Ev.kChain1, Ev.kAnd, Ev.kOr, Ev.kNot, Ev.kIte, Ev.kIdxM, Ev.kIdx3, Ev.kIdx2, Ev.kIdx1, Ev.kSl3, Ev.kO, Ev.kSl2, Ev.kSl1, Ev.kRev, Ev.kRes, Ev.kCall, Ev.kCallK2, Ev.kCallK1, Ev.kBi, Ev.kPop2, Ev.kPop, Ev.kComp3, Ev.kCond, Ev.kElt, Ev.kComp2, Ev.kComp, Ev.kEs2, Ev.kEs1, Ev.kSt2, Ev.kSt3, Ev.kSt1, Ev.kDisp, Ev.kSet, Ev.kOwn, Ev.kOwnOf2, Ev.kOwnOf, Ev.kEnv, Ev.kMany, Ev.kTgt, Ev.kAug2, Ev.kAug, Ev.kPut5, Ev.kPut4, Ev.kPut3, Ev.kPut2, Ev.kPut1, Ev.kApp3, Ev.kApp2, Ev.kApp, Ev.kExt3, Ev.kExt2, Ev.kExt, Ev.kEx, Ev.kRet, Ev.kIf, Ev.kFor2, Ev.kFor, Ev.kSeq, kTruth_bl, p_non, d_non, p_bl, d_bl, p_int, d_int, p_str, d_str, p_tup, d_tup, p_lst, d_lst, p_flst, d_flst, p_ob, d_ob, p_bor, d_own, opB_add, opB_sub, opB_mod, opB_fdiv, opC2_lt, opC2_le, opC2_gt, opC2_ge, opC2_eqI, opC2_neI, opC2_eqS, opC2_neS, opC2_eqT, opC2_neT, opC2_eqL, opC2_neL, opC2_isN, opC2_isNI, opC2_inT, opC2_ninT, biT, idxT_tm, idxT_lm, idxT_t0, idxT_l0, idxT_t1, idxT_l1, idxT_t2, idxT_l2, idxT_t3, idxT_l3, idxT_t4, idxT_l4, idxT_t5, idxT_l5, ixN, asInt, isNul, done_ret, done_next, seqT, asg, asgs, manyGo, boolsT, allRep, Ev.sizeLine_eq, l27_0, g0, hnl, hg, hd, trS, Le.inj, he, hz, hin, hk]
          · refine ⟨.val (.int (k + j)), ?_⟩
            rw [lpush_cons, if_pos he, if_neg hz, ← hb]
            simp [Rs.bind_ok, Rs.bind_no, Rs.of_some, q_var, q_mv, q_gl, q_int, q_str, q_bl, q_non, q_tup, q_lst, q_shd, q_disp, q_bin, q_neg, q_cmp, q_chain, q_and, q_or, q_not, q_notF, q_ite, q_idx, q_sl, q_rev, q_call, q_callK, q_bi, q_pop, q_comp, q_nil, q_cons, q_snil, q_scons, t_var, t_gl, t_bl, t_cmp, t_chain, t_idx, t_call, t_callK, t_bi, t_bin, s_set, s_own, s_ownOf, s_many, s_tgt, s_aug, s_put, s_app, s_ext, s_ex, s_ret, s_retN, s_ite, s_for, s_whl, s_brk, s_cont, s_pass, s_nil, s_cons, Ev.kVar, Ev.kMv, Ev.kTup, Ev.kLst, Ev.kShd, Ev.kBin2, Ev.kBin1, Ev.kNeg, Ev.kCmp2, Ev.kCmp1, Ev.kChain3, Ev.kChain2', Ev.kChain2, Ev.kChain1, Ev.kAnd, Ev.kOr, Ev.kNot, Ev.kIte, Ev.kIdxM, Ev.kIdx3, Ev.kIdx2, Ev.kIdx1, Ev.kSl3, Ev.kO, Ev.kSl2, Ev.kSl1, Ev.kRev, Ev.kRes, Ev.kCall, Ev.kCallK2, Ev.kCallK1, Ev.kBi, Ev.kPop2, Ev.kPop, Ev.kComp3, Ev.kCond, Ev.kElt, Ev.kComp2, Ev.kComp, Ev.kEs2, Ev.kEs1, Ev.kSt2, Ev.kSt3, Ev.kSt1, Ev.kDisp, Ev.kSet, Ev.kOwn, Ev.kOwnOf2, Ev.kOwnOf, Ev.kEnv, Ev.kMany, Ev.kTgt, Ev.kAug2, Ev.kAug, Ev.kPut5, Ev.kPut4, Ev.kPut3, Ev.kPut2, Ev.kPut1, Ev.kApp3, Ev.kApp2, Ev.kApp, Ev.kExt3, Ev.kExt2, Ev.kExt, Ev.kEx, Ev.kRet, Ev.kIf, Ev.kFor2, Ev.kFor, Ev.kSeq, kTruth_bl, p_non, d_non, p_bl, d_bl, p_int, d_int, p_str, d_str, p_tup, d_tup, p_lst, d_lst, p_flst, d_flst, p_ob, d_ob, p_bor, d_own, opB_add, opB_sub, opB_mod, opB_fdiv, opC2_lt, opC2_le, opC2_gt, opC2_ge, opC2_eqI, opC2_neI, opC2_eqS, opC2_neS, opC2_eqT, opC2_neT, opC2_eqL, opC2_neL, opC2_isN, opC2_isNI, opC2_inT, opC2_ninT, biT, idxT_tm, idxT_lm, idxT_t0, idxT_l0, idxT_t1, idxT_l1, idxT_t2, idxT_l2, idxT_t3, idxT_l3, idxT_t4, idxT_l4, idxT_t5, idxT_l5, ixN, asInt, isNul, done_ret, done_next, seqT, asg, asgs, manyGo, boolsT, allRep, Ev.sizeLine_eq, l27_0, g0, hnl, hg, hd, trS, Le.inj, he, hz, hMl, hin, hk]
        · refine ⟨.val (.int k), ?_⟩
          rw [lpush_cons, if_neg he, if_neg hk, ← ha]
          simp [Rs.bind_ok, Rs.bind_no, Rs.of_some, q_var, q_mv, q_gl, q_int, q_str, q_bl, q_non, q_tup, q_lst, q_shd, q_disp, q_bin, q_neg, q_cmp, q_chain, q_and, q_or, q_not, q_notF, q_ite, q_idx, q_sl, q_rev, q_call, q_callK, q_bi, q_pop, q_comp, q_nil, q_cons, q_snil, q_scons, t_var, t_gl, t_bl, t_cmp, t_chain, t_idx, t_call, t_callK, t_bi, t_bin, s_set, s_own, s_ownOf, s_many, s_tgt, s_aug, s_put, s_app, s_ext, s_ex, s_ret, s_retN, s_ite, s_for, s_whl, s_brk, s_cont, s_pass, s_nil, s_cons, Ev.kVar, Ev.kMv, Ev.kTup, Ev.kLst, Ev.kShd, Ev.kBin2, Ev.kBin1, Ev.kNeg, Ev.kCmp2, Ev.kCmp1, Ev.kChain3, Ev.kChain2', Ev.kChain2, Ev.kChain1, Ev.kAnd, Ev.kOr, Ev.kNot, Ev.kIte, Ev.kIdxM, Ev.kIdx3, Ev.kIdx2, Ev.kIdx1, Ev.kSl3, Ev.kO, Ev.kSl2, Ev.kSl1, Ev.kRev, Ev.kRes, Ev.kCall, Ev.kCallK2, Ev.kCallK1, Ev.kBi, Ev.kPop2, Ev.kPop, Ev.kComp3, Ev.kCond, Ev.kElt, Ev.kComp2, Ev.kComp, Ev.kEs2, Ev.kEs1, Ev.kSt2, Ev.kSt3, Ev.kSt1, Ev.kDisp, Ev.kSet, Ev.kOwn, Ev.kOwnOf2, Ev.kOwnOf, Ev.kEnv, Ev.kMany, Ev.kTgt, Ev.kAug2, Ev.kAug, Ev.kPut5, Ev.kPut4, Ev.kPut3, Ev.kPut2, Ev.kPut1, Ev.kApp3, Ev.kApp2, Ev.kApp, Ev.kExt3, Ev.kExt2, Ev.kExt, Ev.kEx, Ev.kRet, Ev.kIf, Ev.kFor2, Ev.kFor, Ev.kSeq, kTruth_bl, p_non, d_non, p_bl, d_bl, p_int, d_int, p_str, d_str, p_tup, d_tup, p_lst, d_lst, p_flst, d_flst, p_ob, d_ob, p_bor, d_own, opB_add, opB_sub, opB_mod, opB_fdiv, opC2_lt, opC2_le, opC2_gt, opC2_ge, opC2_eqI, opC2_neI, opC2_eqS, opC2_neS, opC2_eqT, opC2_neT, opC2_eqL, opC2_neL, opC2_isN, opC2_isNI, opC2_inT, opC2_ninT, biT, idxT_tm, idxT_lm, idxT_t0, idxT_l0, idxT_t1, idxT_l1, idxT_t2, idxT_l2, idxT_t3, idxT_l3, idxT_t4, idxT_l4, idxT_t5, idxT_l5, ixN, asInt, isNul, done_ret, done_next, seqT, asg, asgs, manyGo, boolsT, allRep, Ev.sizeLine_eq, l27_0, g0, hnl, hg, hd, trS, Le.inj, he, hLl, hk]
    obtain ⟨y3, hy⟩ := key
    obtain ⟨z2, z3, hz⟩ := loop23 w (lpush (l, k) v) m x0 (.val (.str l.s)) y3 (lpush_nz hn) (by have := lpush_len (e := (l, k)) (s := v); simp at h; omega)
    refine ⟨z2, z3, ?_⟩
    rw [List.map_cons, forGo_cons (env := [x0, .own (v.reverse.map trS), .val (.str l.s), .val (.int k)]) (by simp [asg, asgs, trS, p_str, p_int]) hy, hz]
    rfl
theorem freed23 {d : Nat} {m : List Ob} {w : W} (h : w.length < 16777216) : callF gc 64 fs (d + 1) 27 [.lst (w.map trS)] m = some (trW (freed w).reverse, m) := by
  rw [callS (fn := f27) rfl rfl]
  obtain ⟨z2, z3, hz⟩ := loop23 (cf := callF gc 64 fs d) w [] m (.val (.lst (w.map trS))) .none .none (by simp) (by simpa using h)
  have hi : items 0 [.lst (w.map trS)] = some (w.map trS) := rfl
  rw [List.reverse_nil, List.map_nil] at hz
  simp [Rs.bind_ok, Rs.bind_no, Rs.of_some, q_var, q_mv, q_gl, q_int, q_str, q_bl, q_non, q_tup, q_lst, q_shd, q_disp, q_bin, q_neg, q_cmp, q_chain, q_and, q_or, q_not, q_notF, q_ite, q_idx, q_sl, q_rev, q_call, q_callK, q_bi, q_pop, q_comp, q_nil, q_cons, q_snil, q_scons, t_var, t_gl, t_bl, t_cmp, t_chain, t_idx, t_call, t_callK, t_bi, t_bin, s_set, s_own, s_ownOf, s_many, s_tgt, s_aug, s_put, s_app, s_ext, s_ex, s_ret, s_retN, s_ite, s_for, s_whl, s_brk, s_cont, s_pass, s_nil, s_cons, Ev.kVar, Ev.kMv, Ev.kTup, Ev.kLst, Ev.kShd, Ev.kBin2, Ev.kBin1, Ev.kNeg, Ev.kCmp2, Ev.kCmp1, Ev.kChain3, Ev.kChain2', Ev.kChain2, Ev.kChain1, Ev.kAnd, Ev.kOr, Ev.kNot, Ev.kIte, Ev.kIdxM, Ev.kIdx3, Ev.kIdx2, Ev.kIdx1, Ev.kSl3, Ev.kO, Ev.kSl2, Ev.kSl1, Ev.kRev, Ev.kRes, Ev.kCall, Ev.kCallK2, Ev.kCallK1, Ev.kBi, Ev.kPop2, Ev.kPop, Ev.kComp3, Ev.kCond, Ev.kElt, Ev.kComp2, Ev.kComp, Ev.kEs2, Ev.kEs1, Ev.kSt2, Ev.kSt3, Ev.kSt1, Ev.kDisp, Ev.kSet, Ev.kOwn, Ev.kOwnOf2, Ev.kOwnOf, Ev.kEnv, Ev.kMany, Ev.kTgt, Ev.kAug2, Ev.kAug, Ev.kPut5, Ev.kPut4, Ev.kPut3, Ev.kPut2, Ev.kPut1, Ev.kApp3, Ev.kApp2, Ev.kApp, Ev.kExt3, Ev.kExt2, Ev.kExt, Ev.kEx, Ev.kRet, Ev.kIf, Ev.kFor2, Ev.kFor, Ev.kSeq, kTruth_bl, p_non, d_non, p_bl, d_bl, p_int, d_int, p_str, d_str, p_tup, d_tup, p_lst, d_lst, p_flst, d_flst, p_ob, d_ob, p_bor, d_own, opB_add, opB_sub, opB_mod, opB_fdiv, opC2_lt, opC2_le, opC2_gt, opC2_ge, opC2_eqI, opC2_neI, opC2_eqS, opC2_neS, opC2_eqT, opC2_neT, opC2_eqL, opC2_neL, opC2_isN, opC2_isNI, opC2_inT, opC2_ninT, biT, idxT_tm, idxT_lm, idxT_t0, idxT_l0, idxT_t1, idxT_l1, idxT_t2, idxT_l2, idxT_t3, idxT_l3, idxT_t4, idxT_l4, idxT_t5, idxT_l5, ixN, asInt, isNul, done_ret, done_next, seqT, asg, asgs, manyGo, boolsT, allRep, Ev.sizeLine_eq, f27, b27, hi, hz]
  rw [← List.map_reverse]
  rfl
theorem loop16 {d : Nat} : ∀ (ts : List It) (v : W) (m : List Ob) (x0 x2 x3 : Slot), v.length + 5 * ts.length ≤ 16777216 → ∃ x2' x3', forGo (.tp [.nm 2, .nm 3]) (exSs gc (callF gc 64 fs (d + 1)) 64 l21_0) (ts.map trP) ⟨[x0, .own (v.map trS), x2, x3], m⟩ = .ok .next ⟨[x0, .own ((v ++ ts.flatMap moved).map trS), x2', x3'], m⟩
  | [], v, m, x0, x2, x3, h => ⟨x2, x3, by rw [List.flatMap_nil, List.append_nil]; rfl⟩
  | e :: ts, v, m, x0, x2, x3, h => by
    have hm := moved22 (d := d) (m := m) (e := e)
    have hl : (moved e).length ≤ 5 := List.length_filter_le _ _
    have hv : v.length + (moved e).length ≤ 16777216 := by simp at h; omega
    have e1 : v.map trS ++ (moved e).map trS = (v ++ moved e).map trS := by simp
    have key : exSs gc (callF gc 64 fs (d + 1)) 64 l21_0 ⟨[x0, .own (v.map trS), .val (.tup [.int e.1.1, .int e.1.2]), .val (.int e.2)], m⟩ = .ok .next ⟨[x0, .own ((v ++ moved e).map trS), .val (.tup [.int e.1.1, .int e.1.2]), .val (.int e.2)], m⟩ := by
      rw [← e1]
      simp [Rs.bind_ok, Rs.bind_no, Rs.of_some, q_var, q_mv, q_gl, q_int, q_str, q_bl, q_non, q_tup, q_lst, q_shd, q_disp, q_bin, q_neg, q_cmp, q_chain, q_and, q_or, q_not, q_notF, q_ite, q_idx, q_sl, q_rev, q_call, q_callK, q_bi, q_pop, q_comp, q_nil, q_cons, q_snil, q_scons, t_var, t_gl, t_bl, t_cmp, t_chain, t_idx, t_call, t_callK, t_bi, t_bin, s_set, s_own, s_ownOf, s_many, s_tgt, s_aug, s_put, s_app, s_ext, s_ex, s_ret, s_retN, s_ite, s_for, s_whl, s_brk, s_cont, s_pass, s_nil, s_cons, Ev.kVar, Ev.kMv, Ev.kTup, Ev.kLst, Ev.kShd, Ev.kBin2, Ev.kBin1, Ev.kNeg, Ev.kCmp2, Ev.kCmp1, Ev.kChain3, Ev.kChain2', Ev.kChain2, Ev.kChain1, Ev.kAnd, Ev.kOr, Ev.kNot, Ev.kIte, Ev.kIdxM, Ev.kIdx3, Ev.kIdx2, Ev.kIdx1, Ev.kSl3, Ev.kO, Ev.kSl2, Ev.kSl1, Ev.kRev, Ev.kRes, Ev.kCall, Ev.kCallK2, Ev.kCallK1, Ev.kBi, Ev.kPop2, Ev.kPop, Ev.kComp3, Ev.kCond, Ev.kElt, Ev.kComp2, Ev.kComp, Ev.kEs2, Ev.kEs1, Ev.kSt2, Ev.kSt3, Ev.kSt1, Ev.kDisp, Ev.kSet, Ev.kOwn, Ev.kOwnOf2, Ev.kOwnOf, Ev.kEnv, Ev.kMany, Ev.kTgt, Ev.kAug2, Ev.kAug, Ev.kPut5, Ev.kPut4, Ev.kPut3, Ev.kPut2, Ev.kPut1, Ev.kApp3, Ev.kApp2, Ev.kApp, Ev.kExt3, Ev.kExt2, Ev.kExt, Ev.kEx, Ev.kRet, Ev.kIf, Ev.kFor2, Ev.kFor, Ev.kSeq, kTruth_bl, p_non, d_non, p_bl, d_bl, p_int, d_int, p_str, d_str, p_tup, d_tup, p_lst, d_lst, p_flst, d_flst, p_ob, d_ob, p_bor, d_own, opB_add, opB_sub, opB_mod, opB_fdiv, opC2_lt, opC2_le, opC2_gt, opC2_ge, opC2_eqI, opC2_neI, opC2_eqS, opC2_neS, opC2_eqT, opC2_neT, opC2_eqL, opC2_neL, opC2_isN, opC2_isNI, opC2_inT, opC2_ninT, biT, idxT_tm, idxT_lm, idxT_t0, idxT_l0, idxT_t1, idxT_l1, idxT_t2, idxT_l2, idxT_t3, idxT_l3, idxT_t4, idxT_l4, idxT_t5, idxT_l5, ixN, asInt, isNul, done_ret, done_next, seqT, asg, asgs, manyGo, boolsT, allRep, Ev.sizeLine_eq, l21_0, hm, hv]
    obtain ⟨z2, z3, hz⟩ := loop16 ts (v ++ moved e) m x0 (.val (.tup [.int e.1.1, .int e.1.2])) (.val (.int e.2)) (by simp at h ⊢; omega)
    refine ⟨z2, z3, ?_⟩
    rw [List.map_cons, forGo_cons (env := [x0, .own (v.map trS), .val (.tup [.int e.1.1, .int e.1.2]), .val (.int e.2)]) (by simp [asg, asgs, trP, p_tup, p_int]) key, hz]
    rw [List.append_assoc]
    rfl
theorem fm_len : ∀ ts : List It, (ts.flatMap moved).length ≤ 5 * ts.length
  | [] => Nat.le_refl _
  | e :: ts => by
    have h1 : (moved e).length ≤ 5 := List.length_filter_le _ _
    have h2 := fm_len ts
    rw [List.flatMap_cons, List.length_append, List.length_cons]
    omega
theorem word_of {d : Nat} {m : List Ob} {f : Fo} (h : 5 * f.1.length + 2 < 16777216) : callF gc 64 fs (d + 2) 21 [trF f] m = some (trW (freed (backW f)).reverse, m) := by
  rw [callS (fn := f21) rfl rfl]
  obtain ⟨s, a, b⟩ := f
  replace h : 5 * s.length + 2 < 16777216 := h
  obtain ⟨z2, z3, hz⟩ := loop16 (d := d) s.reverse [] m (.val (trF (s, a, b))) .none .none (by simp; omega)
  have hi : items 0 [.tup (s.reverse.map trP)] = some (s.reverse.map trP) := rfl
  have hb : backW (s, a, b) = s.reverse.flatMap moved ++ [(.x, a), (.y, b)] := rfl
  have hl := fm_len s.reverse
  rw [List.length_reverse] at hl
  have hf := freed23 (d := d) (m := m) (w := backW (s, a, b)) (by rw [hb, List.length_append]; show _ + 2 < 16777216; omega)
  have e1 : (backW (s, a, b)).map trS = (s.reverse.flatMap moved).map trS ++ [.tup [.str "x", .int a], .tup [.str "y", .int b]] := by rw [hb, List.map_append]; rfl
  rw [e1] at hf
  rw [List.map_nil, List.nil_append] at hz
  have pw : (trW (freed (backW (s, a, b))).reverse).pure = true := rfl
  rw [trF] at hz ⊢
  dsimp only at hz ⊢
  generalize trW (freed (backW (s, a, b))).reverse = R at hf pw ⊢
  have hll : ((s.reverse.flatMap moved).map trS).length + 2 ≤ 16777216 := by rw [List.length_map]; omega
  have hpp : ∀ x ∈ (s.reverse.flatMap moved).map trS, x.pure = true := fun x hx => by
    obtain ⟨e, _, rfl⟩ := List.mem_map.mp hx
    rfl
  generalize (s.reverse.flatMap moved).map trS = M at hz hf hll hpp
  generalize s.reverse.map trP = L at hz hi
  simp [Rs.bind_ok, Rs.bind_no, Rs.of_some, q_var, q_mv, q_gl, q_int, q_str, q_bl, q_non, q_tup, q_lst, q_shd, q_disp, q_bin, q_neg, q_cmp, q_chain, q_and, q_or, q_not, q_notF, q_ite, q_idx, q_sl, q_rev, q_call, q_callK, q_bi, q_pop, q_comp, q_nil, q_cons, q_snil, q_scons, t_var, t_gl, t_bl, t_cmp, t_chain, t_idx, t_call, t_callK, t_bi, t_bin, s_set, s_own, s_ownOf, s_many, s_tgt, s_aug, s_put, s_app, s_ext, s_ex, s_ret, s_retN, s_ite, s_for, s_whl, s_brk, s_cont, s_pass, s_nil, s_cons, Ev.kVar, Ev.kMv, Ev.kTup, Ev.kLst, Ev.kShd, Ev.kBin2, Ev.kBin1, Ev.kNeg, Ev.kCmp2, Ev.kCmp1, Ev.kChain3, Ev.kChain2', Ev.kChain2, Ev.kChain1, Ev.kAnd, Ev.kOr, Ev.kNot, Ev.kIte, Ev.kIdxM, Ev.kIdx3, Ev.kIdx2, Ev.kIdx1, Ev.kSl3, Ev.kO, Ev.kSl2, Ev.kSl1, Ev.kRev, Ev.kRes, Ev.kCall, Ev.kCallK2, Ev.kCallK1, Ev.kBi, Ev.kPop2, Ev.kPop, Ev.kComp3, Ev.kCond, Ev.kElt, Ev.kComp2, Ev.kComp, Ev.kEs2, Ev.kEs1, Ev.kSt2, Ev.kSt3, Ev.kSt1, Ev.kDisp, Ev.kSet, Ev.kOwn, Ev.kOwnOf2, Ev.kOwnOf, Ev.kEnv, Ev.kMany, Ev.kTgt, Ev.kAug2, Ev.kAug, Ev.kPut5, Ev.kPut4, Ev.kPut3, Ev.kPut2, Ev.kPut1, Ev.kApp3, Ev.kApp2, Ev.kApp, Ev.kExt3, Ev.kExt2, Ev.kExt, Ev.kEx, Ev.kRet, Ev.kIf, Ev.kFor2, Ev.kFor, Ev.kSeq, kTruth_bl, p_non, d_non, p_bl, d_bl, p_int, d_int, p_str, d_str, p_tup, d_tup, p_lst, d_lst, p_flst, d_flst, p_ob, d_ob, p_bor, d_own, opB_add, opB_sub, opB_mod, opB_fdiv, opC2_lt, opC2_le, opC2_gt, opC2_ge, opC2_eqI, opC2_neI, opC2_eqS, opC2_neS, opC2_eqT, opC2_neT, opC2_eqL, opC2_neL, opC2_isN, opC2_isNI, opC2_inT, opC2_ninT, biT, idxT_tm, idxT_lm, idxT_t0, idxT_l0, idxT_t1, idxT_l1, idxT_t2, idxT_l2, idxT_t3, idxT_l3, idxT_t4, idxT_l4, idxT_t5, idxT_l5, ixN, asInt, isNul, done_ret, done_next, seqT, asg, asgs, manyGo, boolsT, allRep, Ev.sizeLine_eq, f21, b21, hi, hz, hf, pw, g1, g2]
  rw [if_pos ⟨hpp, by omega⟩]
  simp [Rs.bind_ok, Rs.bind_no, Rs.of_some, q_var, q_mv, q_gl, q_int, q_str, q_bl, q_non, q_tup, q_lst, q_shd, q_disp, q_bin, q_neg, q_cmp, q_chain, q_and, q_or, q_not, q_notF, q_ite, q_idx, q_sl, q_rev, q_call, q_callK, q_bi, q_pop, q_comp, q_nil, q_cons, q_snil, q_scons, t_var, t_gl, t_bl, t_cmp, t_chain, t_idx, t_call, t_callK, t_bi, t_bin, s_set, s_own, s_ownOf, s_many, s_tgt, s_aug, s_put, s_app, s_ext, s_ex, s_ret, s_retN, s_ite, s_for, s_whl, s_brk, s_cont, s_pass, s_nil, s_cons, Ev.kVar, Ev.kMv, Ev.kTup, Ev.kLst, Ev.kShd, Ev.kBin2, Ev.kBin1, Ev.kNeg, Ev.kCmp2, Ev.kCmp1, Ev.kChain3, Ev.kChain2', Ev.kChain2, Ev.kChain1, Ev.kAnd, Ev.kOr, Ev.kNot, Ev.kIte, Ev.kIdxM, Ev.kIdx3, Ev.kIdx2, Ev.kIdx1, Ev.kSl3, Ev.kO, Ev.kSl2, Ev.kSl1, Ev.kRev, Ev.kRes, Ev.kCall, Ev.kCallK2, Ev.kCallK1, Ev.kBi, Ev.kPop2, Ev.kPop, Ev.kComp3, Ev.kCond, Ev.kElt, Ev.kComp2, Ev.kComp, Ev.kEs2, Ev.kEs1, Ev.kSt2, Ev.kSt3, Ev.kSt1, Ev.kDisp, Ev.kSet, Ev.kOwn, Ev.kOwnOf2, Ev.kOwnOf, Ev.kEnv, Ev.kMany, Ev.kTgt, Ev.kAug2, Ev.kAug, Ev.kPut5, Ev.kPut4, Ev.kPut3, Ev.kPut2, Ev.kPut1, Ev.kApp3, Ev.kApp2, Ev.kApp, Ev.kExt3, Ev.kExt2, Ev.kExt, Ev.kEx, Ev.kRet, Ev.kIf, Ev.kFor2, Ev.kFor, Ev.kSeq, kTruth_bl, p_non, d_non, p_bl, d_bl, p_int, d_int, p_str, d_str, p_tup, d_tup, p_lst, d_lst, p_flst, d_flst, p_ob, d_ob, p_bor, d_own, opB_add, opB_sub, opB_mod, opB_fdiv, opC2_lt, opC2_le, opC2_gt, opC2_ge, opC2_eqI, opC2_neI, opC2_eqS, opC2_neS, opC2_eqT, opC2_neT, opC2_eqL, opC2_neL, opC2_isN, opC2_isNI, opC2_inT, opC2_ninT, biT, idxT_tm, idxT_lm, idxT_t0, idxT_l0, idxT_t1, idxT_l1, idxT_t2, idxT_l2, idxT_t3, idxT_l3, idxT_t4, idxT_l4, idxT_t5, idxT_l5, ixN, asInt, isNul, done_ret, done_next, seqT, asg, asgs, manyGo, boolsT, allRep, Ev.sizeLine_eq, hf, pw]
theorem form_word {d : Nat} {m : List Ob} {f : Fo} (hr : Red f.1) (h : 5 * f.1.length + 2 < 16777216) : callF gc 64 fs (d + 7) 13 [trF f] m = some (trW (freed (backW f)).reverse, m) := by
  rw [callS (fn := f13) rfl rfl]
  have pf : (trF f).pure = true := rfl
  have pw : (trW (freed (backW f)).reverse).pure = true := rfl
  have h1 := check_form (d := d) (m := m) hr (by omega)
  have h2 := word_of (d := d + 4) (m := m) h
  generalize trW (freed (backW f)).reverse = R at pw h2 ⊢
  simp [Rs.bind_ok, Rs.bind_no, Rs.of_some, q_var, q_mv, q_gl, q_int, q_str, q_bl, q_non, q_tup, q_lst, q_shd, q_disp, q_bin, q_neg, q_cmp, q_chain, q_and, q_or, q_not, q_notF, q_ite, q_idx, q_sl, q_rev, q_call, q_callK, q_bi, q_pop, q_comp, q_nil, q_cons, q_snil, q_scons, t_var, t_gl, t_bl, t_cmp, t_chain, t_idx, t_call, t_callK, t_bi, t_bin, s_set, s_own, s_ownOf, s_many, s_tgt, s_aug, s_put, s_app, s_ext, s_ex, s_ret, s_retN, s_ite, s_for, s_whl, s_brk, s_cont, s_pass, s_nil, s_cons, Ev.kVar, Ev.kMv, Ev.kTup, Ev.kLst, Ev.kShd, Ev.kBin2, Ev.kBin1, Ev.kNeg, Ev.kCmp2, Ev.kCmp1, Ev.kChain3, Ev.kChain2', Ev.kChain2, Ev.kChain1, Ev.kAnd, Ev.kOr, Ev.kNot, Ev.kIte, Ev.kIdxM, Ev.kIdx3, Ev.kIdx2, Ev.kIdx1, Ev.kSl3, Ev.kO, Ev.kSl2, Ev.kSl1, Ev.kRev, Ev.kRes, Ev.kCall, Ev.kCallK2, Ev.kCallK1, Ev.kBi, Ev.kPop2, Ev.kPop, Ev.kComp3, Ev.kCond, Ev.kElt, Ev.kComp2, Ev.kComp, Ev.kEs2, Ev.kEs1, Ev.kSt2, Ev.kSt3, Ev.kSt1, Ev.kDisp, Ev.kSet, Ev.kOwn, Ev.kOwnOf2, Ev.kOwnOf, Ev.kEnv, Ev.kMany, Ev.kTgt, Ev.kAug2, Ev.kAug, Ev.kPut5, Ev.kPut4, Ev.kPut3, Ev.kPut2, Ev.kPut1, Ev.kApp3, Ev.kApp2, Ev.kApp, Ev.kExt3, Ev.kExt2, Ev.kExt, Ev.kEx, Ev.kRet, Ev.kIf, Ev.kFor2, Ev.kFor, Ev.kSeq, kTruth_bl, p_non, d_non, p_bl, d_bl, p_int, d_int, p_str, d_str, p_tup, d_tup, p_lst, d_lst, p_flst, d_flst, p_ob, d_ob, p_bor, d_own, opB_add, opB_sub, opB_mod, opB_fdiv, opC2_lt, opC2_le, opC2_gt, opC2_ge, opC2_eqI, opC2_neI, opC2_eqS, opC2_neS, opC2_eqT, opC2_neT, opC2_eqL, opC2_neL, opC2_isN, opC2_isNI, opC2_inT, opC2_ninT, biT, idxT_tm, idxT_lm, idxT_t0, idxT_l0, idxT_t1, idxT_l1, idxT_t2, idxT_l2, idxT_t3, idxT_l3, idxT_t4, idxT_l4, idxT_t5, idxT_l5, ixN, asInt, isNul, done_ret, done_next, seqT, asg, asgs, manyGo, boolsT, allRep, Ev.sizeLine_eq, f13, b13, h1, h2, pf, pw]
end G17
/-! The drawn words. -/
namespace G17
open Ev PySem L2
/-! ### bounds -/
def Nice (w : W) : Prop := ∀ e ∈ w, e.2 ≠ 0 ∧ e.2.natAbs ≤ 4
structure Bd (B : Nat) (f : Fo) : Prop where
  st : ∀ e ∈ f.1, e.1.1.natAbs ≤ B ∧ e.1.2.natAbs ≤ B ∧ e.2.natAbs ≤ B
  a : f.2.1.natAbs ≤ B
  b : f.2.2.natAbs ≤ B
theorem Bd.step {B K : Nat} {f : Fo} {e : Le × Int} (h : Bd B f) (hk : e.2.natAbs ≤ K) : Bd (B + K) (step f e) := by
  obtain ⟨s, a, b⟩ := f
  obtain ⟨l, k⟩ := e
  have ha := h.a
  have hb := h.b
  dsimp only at ha hb hk
  have hs : ∀ e ∈ s, e.1.1.natAbs ≤ B + K ∧ e.1.2.natAbs ≤ B + K ∧ e.2.natAbs ≤ B + K := fun e he => by
    obtain ⟨h1, h2, h3⟩ := h.st e he
    omega
  cases l
  · exact ⟨hs, by show (a + k).natAbs ≤ _; omega, by show b.natAbs ≤ _; omega⟩
  · exact ⟨hs, by show a.natAbs ≤ _; omega, by show (b + k).natAbs ≤ _; omega⟩
  · refine ⟨?_, by show a.natAbs ≤ _; omega, by show b.natAbs ≤ _; omega⟩
    show ∀ e ∈ push (-a, -b) k s, _
    cases s with
    | nil =>
      rw [push_nil]
      split
      · exact hs
      · intro e he
        simp at he
        subst he
        dsimp only
        omega
    | cons g r =>
      have hg := h.st g (by simp)
      rw [push_cons]
      split
      · split
        · exact fun e he => hs e (by simp [he])
        · intro e he
          rcases List.mem_cons.mp he with rfl | he
          · dsimp only; omega
          · exact hs e (by simp [he])
      · split
        · exact hs
        · intro e he
          rcases List.mem_cons.mp he with rfl | he
          · dsimp only; omega
          · exact hs e he
theorem Bd.run {K : Nat} : ∀ {w : W} {B : Nat} {f : Fo}, Bd B f → (∀ e ∈ w, e.2.natAbs ≤ K) → Bd (B + K * w.length) (run f w)
  | [], B, f, h, _ => h
  | e :: w, B, f, h, hw => by
    have h1 := (h.step (hw e (by simp))).run (w := w) fun g hg => hw g (by simp [hg])
    rw [run_cons, List.length_cons, Nat.mul_add, Nat.mul_one]
    rw [show B + (K * w.length + K) = B + K + K * w.length by omega]
    exact h1
theorem bd0 : Bd 0 ([], 0, 0) := ⟨by simp, by simp, by simp⟩
theorem reprF {f : Fo} {B : Nat} (h : Bd B f) (hB : B < 2 ^ 1920) (hl : f.1.length ≤ 1000) : ∃ z, reprT (trF f) = some (.str z) := by
  obtain ⟨s, a, b⟩ := f
  have la := log_of h.a hB
  have lb := log_of h.b hB
  dsimp only at la lb hl
  have e1 : shs 3 (s.reverse.map trP) = some (s.reverse.length * (5777 + 2)) := shs_map fun e he => by
    obtain ⟨h1, h2, h3⟩ := h.st e (List.mem_reverse.mp he)
    have l1 := log_of h1 hB
    have l2 := log_of h2 hB
    have l3 := log_of h3 hB
    simp [trP, sh, shs, l1, l2, l3]
  refine repr_of (n := 5) (k := s.reverse.length * (5777 + 2) + 3 + (1921 + (1921 + 0 + 2) + 2) + 2 + 3) ?_ (by omega) (by rw [List.length_reverse]; omega)
  simp [trF, sh, shs, la, lb] at e1 ⊢
  rw [e1]
theorem reprW {w : W} {B : Nat} (h : ∀ e ∈ w, e.2.natAbs ≤ B) (hB : B < 2 ^ 1920) (hl : w.length ≤ 6000) : ∃ z, reprT (trW w) = some (.str z) := by
  have e1 : shs 3 (w.map trS) = some (w.length * (1931 + 2)) := shs_map fun e he => by
    have l1 := log_of (h e he) hB
    obtain ⟨l, k⟩ := e
    have e2 : (reprText l.s).length = 3 := by cases l <;> decide +kernel
    dsimp only at l1
    simp [trS, sh, shs, l1, e2]
  refine repr_of (n := 4) (k := w.length * (1931 + 2) + 3) ?_ (by omega) (by omega)
  simp only [trW, sh, e1]
theorem lpush_bd {B K : Nat} {e : Le × Int} {v : W} (hv : ∀ f ∈ v, f.2.natAbs ≤ B) (he : e.2.natAbs ≤ K) : ∀ f ∈ lpush e v, f.2.natAbs ≤ B + K := by
  have hs : ∀ f ∈ v, f.2.natAbs ≤ B + K := fun f hf => by have := hv f hf; omega
  cases v with
  | nil =>
    rw [lpush_nil]
    split
    · exact hs
    · intro f hf; simp at hf; subst hf; omega
  | cons g r =>
    have hg := hv g (by simp)
    rw [lpush_cons]
    split
    · split
      · exact fun f hf => hs f (by simp [hf])
      · intro f hf
        rcases List.mem_cons.mp hf with rfl | hf
        · dsimp only; omega
        · exact hs f (by simp [hf])
    · split
      · exact hs
      · intro f hf
        rcases List.mem_cons.mp hf with rfl | hf
        · omega
        · exact hs f hf
theorem freed_bd {K : Nat} : ∀ {w v : W} {B : Nat}, (∀ f ∈ v, f.2.natAbs ≤ B) → (∀ f ∈ w, f.2.natAbs ≤ K) → ∀ f ∈ w.foldl (fun s e => lpush e s) v, f.2.natAbs ≤ B + K * w.length
  | [], v, B, hv, _ => hv
  | e :: w, v, B, hv, hw => by
    rw [List.foldl_cons, List.length_cons, Nat.mul_add, Nat.mul_one, show B + (K * w.length + K) = B + K + K * w.length by omega]
    exact freed_bd (w := w) (lpush_bd hv (hw e (by simp))) fun f hf => hw f (by simp [hf])
theorem freed_len : ∀ {w v : W}, (w.foldl (fun s e => lpush e s) v).length ≤ v.length + w.length
  | [], v => Nat.le_refl _
  | e :: w, v => by
    have h1 := freed_len (w := w) (v := lpush e v)
    have h2 := lpush_len (e := e) (s := v)
    rw [List.foldl_cons, List.length_cons]
    omega
theorem back_bd {f : Fo} {B : Nat} (h : Bd B f) : ∀ e ∈ backW f, e.2.natAbs ≤ B := by
  obtain ⟨s, a, b⟩ := f
  intro e he
  have h1 := h.a
  have h2 := h.b
  rw [show backW (s, a, b) = s.reverse.flatMap moved ++ [(.x, a), (.y, b)] from rfl] at he
  rcases List.mem_append.mp he with he | he
  · obtain ⟨g, hg, hm⟩ := List.mem_flatMap.mp he
    obtain ⟨q1, q2, q3⟩ := h.st g (List.mem_reverse.mp hg)
    have hm := (List.mem_filter.mp hm).1
    simp only [List.mem_cons, List.not_mem_nil, or_false] at hm
    rcases hm with rfl | rfl | rfl | rfl | rfl <;> dsimp only <;> omega
  · simp only [List.mem_cons, List.not_mem_nil, or_false] at he
    rcases he with rfl | rfl
    · exact h1
    · exact h2
theorem back_len {f : Fo} : (backW f).length ≤ 5 * f.1.length + 2 := by
  obtain ⟨s, a, b⟩ := f
  have := fm_len s.reverse
  rw [List.length_reverse] at this
  rw [show backW (s, a, b) = s.reverse.flatMap moved ++ [(.x, a), (.y, b)] from rfl, List.length_append]
  show _ + 2 ≤ 5 * s.length + 2
  omega
end G17
/-! The drawn words. -/
namespace G17
open Ev PySem L2
/-! ### the draws' lists -/
theorem asInts (is : List Int) : ∀ t ∈ is.map Tr.int, ∃ i ∈ is, t = .int i := fun t ht => by
  obtain ⟨i, h, rfl⟩ := List.mem_map.mp ht
  exact ⟨i, h, rfl⟩
theorem loop4 {d n : Nat} : ∀ (xs : List Int) (v : W) (m : List Ob) (x1 x3 : Slot) (k : Nat), Pot m n k → k + 2 * xs.length < 1000000 → v.length + xs.length < 1000 → Nice v → ∃ (w : W) (m' : List Ob) (x3' : Slot), forGo (.nm 3) (exSs gc (callF gc 64 fs (d + 2)) 64 l4_0) (xs.map Tr.int) ⟨[.val (.ob n), x1, .own (v.map trS), x3], m⟩ = .ok .next ⟨[.val (.ob n), x1, .own (w.map trS), x3'], m'⟩ ∧ w.length = v.length + xs.length ∧ Nice w ∧ Pot m' n (k + 2 * xs.length)
  | [], v, m, x1, x3, k, hP, h1, h2, hv => ⟨v, m, x3, rfl, rfl, hv, hP⟩
  | x :: xs, v, m, x1, x3, k, hP, h1, h2, hv => by
    rw [List.length_cons] at h1 h2
    obtain ⟨t, m1, ht, e1, P1⟩ := of_spec (d := d) (l := [.str "x", .str "y", .str "t", .str "t"]) hP (by omega) (by simp) (by decide) (by simp)
    obtain ⟨u, m2, hu, e2, P2⟩ := of_spec (d := d) (l := [.int 1, .int (-1), .int 2, .int (-2), .int 3, .int (-4)]) P1 (by omega) (by simp) (by decide) (by simp)
    obtain ⟨l, rfl⟩ : ∃ l : Le, t = .str l.s := by
      simp only [List.mem_cons, List.not_mem_nil, or_false] at ht
      rcases ht with rfl | rfl | rfl | rfl
      · exact ⟨.x, rfl⟩
      · exact ⟨.y, rfl⟩
      · exact ⟨.t, rfl⟩
      · exact ⟨.t, rfl⟩
    obtain ⟨i, rfl, hi0, hi4⟩ : ∃ i : Int, u = .int i ∧ i ≠ 0 ∧ i.natAbs ≤ 4 := by
      simp only [List.mem_cons, List.not_mem_nil, or_false] at hu
      rcases hu with rfl | rfl | rfl | rfl | rfl | rfl <;> exact ⟨_, rfl, by omega, by omega⟩
    have hn : Nice (v ++ [(l, i)]) := fun e he => by
      rcases List.mem_append.mp he with he | he
      · exact hv e he
      · simp at he; subst he; exact ⟨hi0, hi4⟩
    have e3 : v.map trS ++ [.tup [.str l.s, .int i]] = (v ++ [(l, i)]).map trS := by simp [trS]
    have hvl : v.length < 16777216 := by omega
    have key : exSs gc (callF gc 64 fs (d + 2)) 64 l4_0 ⟨[.val (.ob n), x1, .own (v.map trS), .val (.int x)], m⟩ = .ok .next ⟨[.val (.ob n), x1, .own ((v ++ [(l, i)]).map trS), .val (.int x)], m2⟩ := by
      rw [← e3]
      simp [Rs.bind_ok, Rs.bind_no, Rs.of_some, q_var, q_mv, q_gl, q_int, q_str, q_bl, q_non, q_tup, q_lst, q_shd, q_disp, q_bin, q_neg, q_cmp, q_chain, q_and, q_or, q_not, q_notF, q_ite, q_idx, q_sl, q_rev, q_call, q_callK, q_bi, q_pop, q_comp, q_nil, q_cons, q_snil, q_scons, t_var, t_gl, t_bl, t_cmp, t_chain, t_idx, t_call, t_callK, t_bi, t_bin, s_set, s_own, s_ownOf, s_many, s_tgt, s_aug, s_put, s_app, s_ext, s_ex, s_ret, s_retN, s_ite, s_for, s_whl, s_brk, s_cont, s_pass, s_nil, s_cons, Ev.kVar, Ev.kMv, Ev.kTup, Ev.kLst, Ev.kShd, Ev.kBin2, Ev.kBin1, Ev.kNeg, Ev.kCmp2, Ev.kCmp1, Ev.kChain3, Ev.kChain2', Ev.kChain2, Ev.kChain1, Ev.kAnd, Ev.kOr, Ev.kNot, Ev.kIte, Ev.kIdxM, Ev.kIdx3, Ev.kIdx2, Ev.kIdx1, Ev.kSl3, Ev.kO, Ev.kSl2, Ev.kSl1, Ev.kRev, Ev.kRes, Ev.kCall, Ev.kCallK2, Ev.kCallK1, Ev.kBi, Ev.kPop2, Ev.kPop, Ev.kComp3, Ev.kCond, Ev.kElt, Ev.kComp2, Ev.kComp, Ev.kEs2, Ev.kEs1, Ev.kSt2, Ev.kSt3, Ev.kSt1, Ev.kDisp, Ev.kSet, Ev.kOwn, Ev.kOwnOf2, Ev.kOwnOf, Ev.kEnv, Ev.kMany, Ev.kTgt, Ev.kAug2, Ev.kAug, Ev.kPut5, Ev.kPut4, Ev.kPut3, Ev.kPut2, Ev.kPut1, Ev.kApp3, Ev.kApp2, Ev.kApp, Ev.kExt3, Ev.kExt2, Ev.kExt, Ev.kEx, Ev.kRet, Ev.kIf, Ev.kFor2, Ev.kFor, Ev.kSeq, kTruth_bl, p_non, d_non, p_bl, d_bl, p_int, d_int, p_str, d_str, p_tup, d_tup, p_lst, d_lst, p_flst, d_flst, p_ob, d_ob, p_bor, d_own, opB_add, opB_sub, opB_mod, opB_fdiv, opC2_lt, opC2_le, opC2_gt, opC2_ge, opC2_eqI, opC2_neI, opC2_eqS, opC2_neS, opC2_eqT, opC2_neT, opC2_eqL, opC2_neL, opC2_isN, opC2_isNI, opC2_inT, opC2_ninT, biT, idxT_tm, idxT_lm, idxT_t0, idxT_l0, idxT_t1, idxT_l1, idxT_t2, idxT_l2, idxT_t3, idxT_l3, idxT_t4, idxT_l4, idxT_t5, idxT_l5, ixN, asInt, isNul, done_ret, done_next, seqT, asg, asgs, manyGo, boolsT, allRep, Ev.sizeLine_eq, l4_0, e1, e2, hvl]
    obtain ⟨w, m3, x3', hz, hl, hw, P3⟩ := loop4 xs (v ++ [(l, i)]) m2 x1 (.val (.int x)) (k + 1 + 1) P2 (by omega) (by simp; omega) hn
    refine ⟨w, m3, x3', ?_, by simp at hl ⊢; omega, hw, by rw [List.length_cons, show k + 2 * (xs.length + 1) = k + 1 + 1 + 2 * xs.length by omega]; exact P3⟩
    rw [List.map_cons, forGo_cons (env := [.val (.ob n), x1, .own (v.map trS), .val (.int x)]) (by simp [asg, p_int]) key, hz]
theorem rg0 (n : Nat) : rgT 0 (n : Int) = ((List.range n).map fun (i : Nat) => (i : Int)).map Tr.int := by
  unfold rgT
  rw [List.map_map]
  have : ((n : Int) - 0).toNat = n := by omega
  rw [this]
  apply List.map_congr_left
  intro i _
  show Tr.int (0 + (i : Int)) = Tr.int (i : Int)
  rw [Int.zero_add]
theorem ground_word {d n k : Nat} {m : List Ob} {c : Nat} (hP : Pot m n k) (hc : c < 100) (hk : k < 900000) : ∃ (w : W) (m' : List Ob), callF gc 64 fs (d + 3) 4 [.ob n, .int c] m = some (trW w, m') ∧ w.length = c ∧ Nice w ∧ Pot m' n (k + 2 * c) := by
  rw [callS (fn := f4) rfl rfl]
  obtain ⟨w, m', x3', hz, hl, hw, P⟩ := loop4 (d := d) (n := n) ((List.range c).map fun (i : Nat) => (i : Int)) [] m (.val (.int c)) .none k hP (by simp; omega) (by simp; omega) (fun _ h => by cases h)
  rw [List.length_map, List.length_range] at P hl
  rw [← rg0, List.map_nil] at hz
  have hi : items 1 [.int (c : Int)] = some (rgT 0 c) := by
    simp only [items]
    exact if_pos (in62_of (by omega))
  refine ⟨w, m', ?_, by simpa using hl, hw, P⟩
  generalize rgT 0 (c : Int) = L at hz hi
  have pw : Tr.pure (.tup (w.map trS)) = true := rfl
  simp [Rs.bind_ok, Rs.bind_no, Rs.of_some, q_var, q_mv, q_gl, q_int, q_str, q_bl, q_non, q_tup, q_lst, q_shd, q_disp, q_bin, q_neg, q_cmp, q_chain, q_and, q_or, q_not, q_notF, q_ite, q_idx, q_sl, q_rev, q_call, q_callK, q_bi, q_pop, q_comp, q_nil, q_cons, q_snil, q_scons, t_var, t_gl, t_bl, t_cmp, t_chain, t_idx, t_call, t_callK, t_bi, t_bin, s_set, s_own, s_ownOf, s_many, s_tgt, s_aug, s_put, s_app, s_ext, s_ex, s_ret, s_retN, s_ite, s_for, s_whl, s_brk, s_cont, s_pass, s_nil, s_cons, Ev.kVar, Ev.kMv, Ev.kTup, Ev.kLst, Ev.kShd, Ev.kBin2, Ev.kBin1, Ev.kNeg, Ev.kCmp2, Ev.kCmp1, Ev.kChain3, Ev.kChain2', Ev.kChain2, Ev.kChain1, Ev.kAnd, Ev.kOr, Ev.kNot, Ev.kIte, Ev.kIdxM, Ev.kIdx3, Ev.kIdx2, Ev.kIdx1, Ev.kSl3, Ev.kO, Ev.kSl2, Ev.kSl1, Ev.kRev, Ev.kRes, Ev.kCall, Ev.kCallK2, Ev.kCallK1, Ev.kBi, Ev.kPop2, Ev.kPop, Ev.kComp3, Ev.kCond, Ev.kElt, Ev.kComp2, Ev.kComp, Ev.kEs2, Ev.kEs1, Ev.kSt2, Ev.kSt3, Ev.kSt1, Ev.kDisp, Ev.kSet, Ev.kOwn, Ev.kOwnOf2, Ev.kOwnOf, Ev.kEnv, Ev.kMany, Ev.kTgt, Ev.kAug2, Ev.kAug, Ev.kPut5, Ev.kPut4, Ev.kPut3, Ev.kPut2, Ev.kPut1, Ev.kApp3, Ev.kApp2, Ev.kApp, Ev.kExt3, Ev.kExt2, Ev.kExt, Ev.kEx, Ev.kRet, Ev.kIf, Ev.kFor2, Ev.kFor, Ev.kSeq, kTruth_bl, p_non, d_non, p_bl, d_bl, p_int, d_int, p_str, d_str, p_tup, d_tup, p_lst, d_lst, p_flst, d_flst, p_ob, d_ob, p_bor, d_own, opB_add, opB_sub, opB_mod, opB_fdiv, opC2_lt, opC2_le, opC2_gt, opC2_ge, opC2_eqI, opC2_neI, opC2_eqS, opC2_neS, opC2_eqT, opC2_neT, opC2_eqL, opC2_neL, opC2_isN, opC2_isNI, opC2_inT, opC2_ninT, biT, idxT_tm, idxT_lm, idxT_t0, idxT_l0, idxT_t1, idxT_l1, idxT_t2, idxT_l2, idxT_t3, idxT_l3, idxT_t4, idxT_l4, idxT_t5, idxT_l5, ixN, asInt, isNul, done_ret, done_next, seqT, asg, asgs, manyGo, boolsT, allRep, Ev.sizeLine_eq, f4, b4, hi, hz]
  rfl
end G17
/-! The law, whole. -/
namespace G17
open Ev PySem L2
theorem comp_mem {f : Tr → List Ob → Option (Option Tr × List Ob)} {P : Tr → Prop} (h : ∀ x m, P x → ∃ m', f x m = some (some (.bl true), m')) : ∀ (xs acc : List Tr) (m : List Ob), (∀ x ∈ xs, P x) → acc.length + xs.length ≤ 16777216 → ∃ m', compGo f xs m acc = some (acc ++ List.replicate xs.length (.bl true), m')
  | [], acc, m, _, _ => ⟨m, by simp [compGo]⟩
  | x :: xs, acc, m, hp, hl => by
    rw [List.length_cons] at hl
    obtain ⟨m1, e1⟩ := h x m (hp x (by simp))
    obtain ⟨m2, e2⟩ := comp_mem h xs (acc ++ [.bl true]) m1 (fun y hy => hp y (by simp [hy])) (by simp; omega)
    refine ⟨m2, ?_⟩
    simp only [compGo, e1]
    rw [if_pos (by rw [Ev.sizeLine_eq]; omega), e2, List.length_cons, List.replicate_succ, List.append_assoc]
    rfl
theorem lenF (l : List Tr) : biT .len [.flst l] = some (.int l.length) := rfl
theorem minI (a b : Int) : biT .min2 [.int a, .int b] = some (.int (if b < a then b else a)) := rfl
theorem maxI (a b : Int) : biT .max2 [.int a, .int b] = some (.int (if b > a then b else a)) := rfl
theorem cells {d : Nat} {m : List Ob} {ns : List Int} : ∃ c : Nat, c ≤ 3 ∧ (∀ i < c, i < ns.length ∨ (i = 0 ∧ ns = [])) ∧ callF gc 64 fs (d + 1) 1 [.flst (ns.map .int), .int 3] m = some (.lst (rgT 0 c), m) := by
  have hl : (ns.map Tr.int).length = ns.length := List.length_map ..
  obtain ⟨c, hc, h3, hi⟩ : ∃ c : Nat, (c : Int) = (if (if (ns.length : Int) < 3 then (ns.length : Int) else 3) > 1 then (if (ns.length : Int) < 3 then (ns.length : Int) else 3) else 1) ∧ c ≤ 3 ∧ ∀ i < c, i < ns.length ∨ (i = 0 ∧ ns = []) := by
    have e0 : ns.length = 0 → ns = [] := List.length_eq_zero_iff.mp
    refine ⟨max 1 (min ns.length 3), ?_, by omega, fun i hi => ?_⟩
    · split <;> split at * <;> omega
    · by_cases h : ns.length = 0
      · exact .inr ⟨by omega, e0 h⟩
      · exact .inl (by omega)
  have key : biT .listRg [.int (if (if (ns.length : Int) < 3 then (ns.length : Int) else 3) > 1 then (if (ns.length : Int) < 3 then (ns.length : Int) else 3) else 1)] = some (.lst (rgT 0 c)) := by
    rw [← hc]
    simp only [biT]
    exact if_pos (by
      rw [Bool.and_eq_true]
      exact ⟨decide_eq_true (by omega), Nat.ble_eq_true_of_le (by omega)⟩)
  refine ⟨c, h3, hi, ?_⟩
  generalize rgT 0 (c : Int) = R at key ⊢
  rw [callS (fn := f1) rfl rfl]
  generalize ns.map Tr.int = L at hl
  have e1 : biT .len [.flst L] = some (.int ns.length) := by rw [lenF, hl]
  have e2 := minI 3 (ns.length : Int)
  have e3 := maxI 1 (if (ns.length : Int) < 3 then (ns.length : Int) else 3)
  generalize (if (ns.length : Int) < 3 then (ns.length : Int) else 3) = A at e2 e3 key
  generalize (if A > 1 then A else 1) = B at e3 key
  simp [Rs.bind_ok, Rs.bind_no, Rs.of_some, q_var, q_mv, q_gl, q_int, q_str, q_bl, q_non, q_tup, q_lst, q_shd, q_disp, q_bin, q_neg, q_cmp, q_chain, q_and, q_or, q_not, q_notF, q_ite, q_idx, q_sl, q_rev, q_call, q_callK, q_bi, q_pop, q_comp, q_nil, q_cons, q_snil, q_scons, t_var, t_gl, t_bl, t_cmp, t_chain, t_idx, t_call, t_callK, t_bi, t_bin, s_set, s_own, s_ownOf, s_many, s_tgt, s_aug, s_put, s_app, s_ext, s_ex, s_ret, s_retN, s_ite, s_for, s_whl, s_brk, s_cont, s_pass, s_nil, s_cons, Ev.kVar, Ev.kMv, Ev.kTup, Ev.kLst, Ev.kShd, Ev.kBin2, Ev.kBin1, Ev.kNeg, Ev.kCmp2, Ev.kCmp1, Ev.kChain3, Ev.kChain2', Ev.kChain2, Ev.kChain1, Ev.kAnd, Ev.kOr, Ev.kNot, Ev.kIte, Ev.kIdxM, Ev.kIdx3, Ev.kIdx2, Ev.kIdx1, Ev.kSl3, Ev.kO, Ev.kSl2, Ev.kSl1, Ev.kRev, Ev.kRes, Ev.kCall, Ev.kCallK2, Ev.kCallK1, Ev.kBi, Ev.kPop2, Ev.kPop, Ev.kComp3, Ev.kCond, Ev.kElt, Ev.kComp2, Ev.kComp, Ev.kEs2, Ev.kEs1, Ev.kSt2, Ev.kSt3, Ev.kSt1, Ev.kDisp, Ev.kSet, Ev.kOwn, Ev.kOwnOf2, Ev.kOwnOf, Ev.kEnv, Ev.kMany, Ev.kTgt, Ev.kAug2, Ev.kAug, Ev.kPut5, Ev.kPut4, Ev.kPut3, Ev.kPut2, Ev.kPut1, Ev.kApp3, Ev.kApp2, Ev.kApp, Ev.kExt3, Ev.kExt2, Ev.kExt, Ev.kEx, Ev.kRet, Ev.kIf, Ev.kFor2, Ev.kFor, Ev.kSeq, kTruth_bl, p_non, d_non, p_bl, d_bl, p_int, d_int, p_str, d_str, p_tup, d_tup, p_lst, d_lst, p_flst, d_flst, p_ob, d_ob, p_bor, d_own, opB_add, opB_sub, opB_mod, opB_fdiv, opC2_lt, opC2_le, opC2_gt, opC2_ge, opC2_eqI, opC2_neI, opC2_eqS, opC2_neS, opC2_eqT, opC2_neT, opC2_eqL, opC2_neL, opC2_isN, opC2_isNI, opC2_inT, opC2_ninT, idxT_tm, idxT_lm, idxT_t0, idxT_l0, idxT_t1, idxT_l1, idxT_t2, idxT_l2, idxT_t3, idxT_l3, idxT_t4, idxT_l4, idxT_t5, idxT_l5, ixN, asInt, isNul, done_ret, done_next, seqT, asg, asgs, manyGo, boolsT, allRep, Ev.sizeLine_eq, f1, b1, e1, e2, e3, key]
end G17
/-! The law at every script. -/
namespace G17
open Ev PySem L2
theorem p18 : opB .pow (.int 10) (.int 18) = some (.int 1000000000000000000) := (opB_pow (by decide) (by decide)).trans rfl
theorem p60 : opB .pow (.int 10) (.int 60) = some (.int 1000000000000000000000000000000000000000000000000000000000000) := (opB_pow (by decide) (by decide)).trans rfl
theorem p300 : opB .pow (.int 1000000000000000000000000000000000000000000000000000000000000) (.int 5) = some (.int 1000000000000000000000000000000000000000000000000000000000000000000000000000000000000000000000000000000000000000000000000000000000000000000000000000000000000000000000000000000000000000000000000000000000000000000000000000000000000000000000000000000000000000000000000000000000000000000000000000000000000) := (opB_pow (by decide) (by decide +kernel)).trans (congrArg (fun x => some (Tr.int x)) (by decide +kernel))
theorem intI (a : Int) : biT .int [.int a] = some (.int a) := rfl
theorem intT : biT .int [.bl true] = some (.int 1) := rfl
theorem intF : biT .int [.bl false] = some (.int 0) := rfl
theorem absI (a : Int) : biT .abs [.int a] = some (.int (if a < 0 then -a else a)) := rfl
def b3r : List Sm := b3.drop 1
theorem pot_rest {cf : CF} {m : List Ob} {x0 : Slot} {C : Int} {i : Nat} (hi : i ≤ 2) : ∃ o s : Int, exSs gc cf 64 b3r ⟨[x0, .val (.int i), .val (.int C), .none, .none], m⟩ = .ok (.ret (.ob m.length)) ⟨[x0, .val (.int i), .val (.int C), .val (.int o), .val (.int (C % 2305843009213693951))], m ++ [.lst [.int o, .int s, .int 0]]⟩ ∧ 0 ≤ s ∧ s < 2305843009213693921 := by
  have q0 := Int.emod_nonneg C (show (2305843009213693951 : Int) ≠ 0 by omega)
  have q1 := Int.emod_lt_of_pos C (show (0 : Int) < 2305843009213693951 by omega)
  have s1 : opB .mul (.int (C % 2305843009213693951)) (.int 85985) = some (.int (C % 2305843009213693951 * 85985)) := opB_mul (.of64 (by omega) (by omega)) (.of64 (by omega) (by omega))
  have s2 : opB .mul (.int 10117) (.int (i : Int)) = some (.int (10117 * i)) := opB_mul (.of64 (by omega) (by omega)) (.of64 (by omega) (by omega))
  have s3 : opB .mul (.int (10117 * (i : Int))) (.int (i : Int)) = some (.int (10117 * i * i)) := opB_mul (.of64 (by omega) (by omega)) (.of64 (by omega) (by omega))
  have r0 : ∀ x : Int, 0 ≤ x % 2305843009213693921 := fun x => Int.emod_nonneg _ (by omega)
  have r1 : ∀ x : Int, x % 2305843009213693921 < 2305843009213693921 := fun x => Int.emod_lt_of_pos _ (by omega)
  have a1 := absI C
  generalize (if C < 0 then -C else C) = A at a1
  obtain ⟨M, hM⟩ : ∃ M : Int, M = 1000000000000000000000000000000000000000000000000000000000000000000000000000000000000000000000000000000000000000000000000000000000000000000000000000000000000000000000000000000000000000000000000000000000000000000000000000000000000000000000000000000000000000000000000000000000000000000000000000000000000 := ⟨_, rfl⟩
  have hM0 : 0 < M := by rw [hM]; decide +kernel
  have pM : opB .pow (.int 1000000000000000000000000000000000000000000000000000000000000) (.int 5) = some (.int M) := by rw [hM]; exact p300
  have n0 := Int.emod_nonneg A (show M ≠ 0 by omega)
  have n1 := Int.emod_lt_of_pos A hM0
  have lM : Lil (A % M) := Lil.of 1000 (by omega) (by omega) (by
    have : M < ((2 ^ 1000 : Nat) : Int) := by rw [hM]; decide +kernel
    omega)
  have m1 : opB .mul (.int (A % M)) (.int 1) = some (.int (A % M * 1)) := opB_mul lM (.of64 (by omega) (by omega))
  have m0 : opB .mul (.int (A % M)) (.int 0) = some (.int (A % M * 0)) := opB_mul lM (.of64 (by omega) (by omega))
  clear hM
  by_cases hA : 1000000000000000000 ≤ A
  · refine ⟨A % M * 1, (C % 2305843009213693951 * 85985 + 10117 * i * i + 623) % 2305843009213693921, ?_, r0 _, r1 _⟩
    simp [Rs.bind_ok, Rs.bind_no, Rs.of_some, q_var, q_mv, q_gl, q_int, q_str, q_bl, q_non, q_tup, q_lst, q_shd, q_disp, q_bin, q_neg, q_cmp, q_chain, q_and, q_or, q_not, q_notF, q_ite, q_idx, q_sl, q_rev, q_call, q_callK, q_bi, q_pop, q_comp, q_nil, q_cons, q_snil, q_scons, t_var, t_gl, t_bl, t_cmp, t_chain, t_idx, t_call, t_callK, t_bi, t_bin, s_set, s_own, s_ownOf, s_many, s_tgt, s_aug, s_put, s_app, s_ext, s_ex, s_ret, s_retN, s_ite, s_for, s_whl, s_brk, s_cont, s_pass, s_nil, s_cons, Ev.kVar, Ev.kMv, Ev.kTup, Ev.kLst, Ev.kShd, Ev.kBin2, Ev.kBin1, Ev.kNeg, Ev.kCmp2, Ev.kCmp1, Ev.kChain3, Ev.kChain2', Ev.kChain2, Ev.kChain1, Ev.kAnd, Ev.kOr, Ev.kNot, Ev.kIte, Ev.kIdxM, Ev.kIdx3, Ev.kIdx2, Ev.kIdx1, Ev.kSl3, Ev.kO, Ev.kSl2, Ev.kSl1, Ev.kRev, Ev.kRes, Ev.kCall, Ev.kCallK2, Ev.kCallK1, Ev.kBi, Ev.kPop2, Ev.kPop, Ev.kComp3, Ev.kCond, Ev.kElt, Ev.kComp2, Ev.kComp, Ev.kEs2, Ev.kEs1, Ev.kSt2, Ev.kSt3, Ev.kSt1, Ev.kDisp, Ev.kSet, Ev.kOwn, Ev.kOwnOf2, Ev.kOwnOf, Ev.kEnv, Ev.kMany, Ev.kTgt, Ev.kAug2, Ev.kAug, Ev.kPut5, Ev.kPut4, Ev.kPut3, Ev.kPut2, Ev.kPut1, Ev.kApp3, Ev.kApp2, Ev.kApp, Ev.kExt3, Ev.kExt2, Ev.kExt, Ev.kEx, Ev.kRet, Ev.kIf, Ev.kFor2, Ev.kFor, Ev.kSeq, kTruth_bl, p_non, d_non, p_bl, d_bl, p_int, d_int, p_str, d_str, p_tup, d_tup, p_lst, d_lst, p_flst, d_flst, p_ob, d_ob, p_bor, d_own, opB_add, opB_sub, opB_mod, opB_fdiv, opC2_lt, opC2_le, opC2_gt, opC2_ge, opC2_eqI, opC2_neI, opC2_eqS, opC2_neS, opC2_eqT, opC2_neT, opC2_eqL, opC2_neL, opC2_isN, opC2_isNI, opC2_inT, opC2_ninT, idxT_tm, idxT_lm, idxT_t0, idxT_l0, idxT_t1, idxT_l1, idxT_t2, idxT_l2, idxT_t3, idxT_l3, idxT_t4, idxT_l4, idxT_t5, idxT_l5, ixN, asInt, isNul, done_ret, done_next, seqT, asg, asgs, manyGo, boolsT, allRep, Ev.sizeLine_eq, b3r, b3, a1, p60, pM, p18, intI, intT, intF, hA, hM0, m1, m0, s1, s2, s3]
  · refine ⟨A % M * 0, (C % 2305843009213693951 * 85985 + 10117 * i * i + 623) % 2305843009213693921, ?_, r0 _, r1 _⟩
    simp [Rs.bind_ok, Rs.bind_no, Rs.of_some, q_var, q_mv, q_gl, q_int, q_str, q_bl, q_non, q_tup, q_lst, q_shd, q_disp, q_bin, q_neg, q_cmp, q_chain, q_and, q_or, q_not, q_notF, q_ite, q_idx, q_sl, q_rev, q_call, q_callK, q_bi, q_pop, q_comp, q_nil, q_cons, q_snil, q_scons, t_var, t_gl, t_bl, t_cmp, t_chain, t_idx, t_call, t_callK, t_bi, t_bin, s_set, s_own, s_ownOf, s_many, s_tgt, s_aug, s_put, s_app, s_ext, s_ex, s_ret, s_retN, s_ite, s_for, s_whl, s_brk, s_cont, s_pass, s_nil, s_cons, Ev.kVar, Ev.kMv, Ev.kTup, Ev.kLst, Ev.kShd, Ev.kBin2, Ev.kBin1, Ev.kNeg, Ev.kCmp2, Ev.kCmp1, Ev.kChain3, Ev.kChain2', Ev.kChain2, Ev.kChain1, Ev.kAnd, Ev.kOr, Ev.kNot, Ev.kIte, Ev.kIdxM, Ev.kIdx3, Ev.kIdx2, Ev.kIdx1, Ev.kSl3, Ev.kO, Ev.kSl2, Ev.kSl1, Ev.kRev, Ev.kRes, Ev.kCall, Ev.kCallK2, Ev.kCallK1, Ev.kBi, Ev.kPop2, Ev.kPop, Ev.kComp3, Ev.kCond, Ev.kElt, Ev.kComp2, Ev.kComp, Ev.kEs2, Ev.kEs1, Ev.kSt2, Ev.kSt3, Ev.kSt1, Ev.kDisp, Ev.kSet, Ev.kOwn, Ev.kOwnOf2, Ev.kOwnOf, Ev.kEnv, Ev.kMany, Ev.kTgt, Ev.kAug2, Ev.kAug, Ev.kPut5, Ev.kPut4, Ev.kPut3, Ev.kPut2, Ev.kPut1, Ev.kApp3, Ev.kApp2, Ev.kApp, Ev.kExt3, Ev.kExt2, Ev.kExt, Ev.kEx, Ev.kRet, Ev.kIf, Ev.kFor2, Ev.kFor, Ev.kSeq, kTruth_bl, p_non, d_non, p_bl, d_bl, p_int, d_int, p_str, d_str, p_tup, d_tup, p_lst, d_lst, p_flst, d_flst, p_ob, d_ob, p_bor, d_own, opB_add, opB_sub, opB_mod, opB_fdiv, opC2_lt, opC2_le, opC2_gt, opC2_ge, opC2_eqI, opC2_neI, opC2_eqS, opC2_neS, opC2_eqT, opC2_neT, opC2_eqL, opC2_neL, opC2_isN, opC2_isNI, opC2_inT, opC2_ninT, idxT_tm, idxT_lm, idxT_t0, idxT_l0, idxT_t1, idxT_l1, idxT_t2, idxT_l2, idxT_t3, idxT_l3, idxT_t4, idxT_l4, idxT_t5, idxT_l5, ixN, asInt, isNul, done_ret, done_next, seqT, asg, asgs, manyGo, boolsT, allRep, Ev.sizeLine_eq, b3r, b3, a1, p60, pM, p18, intI, intT, intF, hA, hM0, m1, m0, s1, s2, s3]
theorem pot {d : Nat} {m : List Ob} {ns : List Int} {i : Nat} (hi : i ≤ 2) (h : i < ns.length ∨ (i = 0 ∧ ns = [])) : ∃ m', callF gc 64 fs (d + 1) 3 [.flst (ns.map .int), .int i] m = some (.ob m.length, m') ∧ Pot m' m.length 0 := by
  rw [callS (fn := f3) rfl rfl]
  have fin3 : ∀ (C : Int), exS gc (callF gc 64 fs d) 64 (b3.headD .pass) ⟨[.val (.flst (ns.map .int)), .val (.int i), .none, .none, .none], m⟩ = .ok .next ⟨[.val (.flst (ns.map .int)), .val (.int i), .val (.int C), .none, .none], m⟩ → ∃ m', done (exSs gc (callF gc 64 fs d) 64 b3 ⟨[.val (.flst (ns.map .int)), .val (.int i), .none, .none, .none], m⟩) = some (.ob m.length, m') ∧ Pot m' m.length 0 := fun C e => by
    obtain ⟨o, s, e2, h0, h1⟩ := pot_rest (cf := callF gc 64 fs d) (m := m) (x0 := .val (.flst (ns.map .int))) (C := C) hi
    refine ⟨m ++ [.lst [.int o, .int s, .int 0]], ?_, ⟨o, s, 0, by simp, h0, by omega, by omega, by omega⟩⟩
    rw [show b3 = b3.headD .pass :: b3r from rfl, s_cons, e, Rs.bind_ok]
    show done (exSs gc (callF gc 64 fs d) 64 b3r _) = _
    rw [e2]
    rfl
  show ∃ m', done (exSs gc (callF gc 64 fs d) 64 b3 ⟨[.val (.flst (ns.map .int)), .val (.int i), .none, .none, .none], m⟩) = some (.ob m.length, m') ∧ Pot m' m.length 0
  rcases h with h | ⟨rfl, rfl⟩
  · refine fin3 ns[i] ?_
    have e1 : biT .len [.flst (ns.map Tr.int)] = some (.int ns.length) := by rw [lenF, List.length_map]
    have e2 : idxT (.flst (ns.map Tr.int)) (.int (i : Int)) = some (.int ns[i]) := by
      show atI (ns.map Tr.int) (i : Int) = _
      rw [Ev.atI_nat, List.getElem?_map, List.getElem?_eq_getElem h]
      rfl
    generalize ns.map Tr.int = L at e1 e2 ⊢
    have hd : b3.headD .pass = .set 2 (.ite (.cmp .lt (.var 1) (.bi .len [.var 0])) (.idx (.var 0) (.var 1)) (.bin .add (.bin .add (.bin .mod (.bi .int [.bi .sum [.sl (.var 0) .nul (.int 1)]]) (.int 1000003)) (.bin .mul (.int 1481) (.var 1))) (.int 1163))) := rfl
    rw [hd]
    generalize ns[i] = C at e2 ⊢
    simp [Rs.bind_ok, Rs.bind_no, Rs.of_some, q_var, q_mv, q_gl, q_int, q_str, q_bl, q_non, q_tup, q_lst, q_shd, q_disp, q_bin, q_neg, q_cmp, q_chain, q_and, q_or, q_not, q_notF, q_ite, q_idx, q_sl, q_rev, q_call, q_callK, q_bi, q_pop, q_comp, q_nil, q_cons, q_snil, q_scons, t_var, t_gl, t_bl, t_cmp, t_chain, t_idx, t_call, t_callK, t_bi, t_bin, s_set, s_own, s_ownOf, s_many, s_tgt, s_aug, s_put, s_app, s_ext, s_ex, s_ret, s_retN, s_ite, s_for, s_whl, s_brk, s_cont, s_pass, s_nil, s_cons, Ev.kVar, Ev.kMv, Ev.kTup, Ev.kLst, Ev.kShd, Ev.kBin2, Ev.kBin1, Ev.kNeg, Ev.kCmp2, Ev.kCmp1, Ev.kChain3, Ev.kChain2', Ev.kChain2, Ev.kChain1, Ev.kAnd, Ev.kOr, Ev.kNot, Ev.kIte, Ev.kIdxM, Ev.kIdx3, Ev.kIdx2, Ev.kIdx1, Ev.kSl3, Ev.kO, Ev.kSl2, Ev.kSl1, Ev.kRev, Ev.kRes, Ev.kCall, Ev.kCallK2, Ev.kCallK1, Ev.kBi, Ev.kPop2, Ev.kPop, Ev.kComp3, Ev.kCond, Ev.kElt, Ev.kComp2, Ev.kComp, Ev.kEs2, Ev.kEs1, Ev.kSt2, Ev.kSt3, Ev.kSt1, Ev.kDisp, Ev.kSet, Ev.kOwn, Ev.kOwnOf2, Ev.kOwnOf, Ev.kEnv, Ev.kMany, Ev.kTgt, Ev.kAug2, Ev.kAug, Ev.kPut5, Ev.kPut4, Ev.kPut3, Ev.kPut2, Ev.kPut1, Ev.kApp3, Ev.kApp2, Ev.kApp, Ev.kExt3, Ev.kExt2, Ev.kExt, Ev.kEx, Ev.kRet, Ev.kIf, Ev.kFor2, Ev.kFor, Ev.kSeq, kTruth_bl, p_non, d_non, p_bl, d_bl, p_int, d_int, p_str, d_str, p_tup, d_tup, p_lst, d_lst, p_flst, d_flst, p_ob, d_ob, p_bor, d_own, opB_add, opB_sub, opB_mod, opB_fdiv, opC2_lt, opC2_le, opC2_gt, opC2_ge, opC2_eqI, opC2_neI, opC2_eqS, opC2_neS, opC2_eqT, opC2_neT, opC2_eqL, opC2_neL, opC2_isN, opC2_isNI, opC2_inT, opC2_ninT, idxT_tm, idxT_lm, idxT_t0, idxT_l0, idxT_t1, idxT_l1, idxT_t2, idxT_l2, idxT_t3, idxT_l3, idxT_t4, idxT_l4, idxT_t5, idxT_l5, ixN, asInt, isNul, done_ret, done_next, seqT, asg, asgs, manyGo, boolsT, allRep, Ev.sizeLine_eq, e1, e2, h]
  · refine fin3 1163 ?_
    have hd : b3.headD .pass = .set 2 (.ite (.cmp .lt (.var 1) (.bi .len [.var 0])) (.idx (.var 0) (.var 1)) (.bin .add (.bin .add (.bin .mod (.bi .int [.bi .sum [.sl (.var 0) .nul (.int 1)]]) (.int 1000003)) (.bin .mul (.int 1481) (.var 1))) (.int 1163))) := rfl
    rw [hd, List.map_nil]
    have e1 : biT .len [.flst []] = some (.int 0) := rfl
    have e2 : slT (.flst []) none (some 1) = some (.lst []) := rfl
    have e3 : biT .sum [.lst []] = some (.int 0) := rfl
    have e4 : opB .mul (.int 1481) (.int 0) = some (.int 0) := opB_mul (.of64 (by omega) (by omega)) (.of64 (by omega) (by omega))
    simp [Rs.bind_ok, Rs.bind_no, Rs.of_some, q_var, q_mv, q_gl, q_int, q_str, q_bl, q_non, q_tup, q_lst, q_shd, q_disp, q_bin, q_neg, q_cmp, q_chain, q_and, q_or, q_not, q_notF, q_ite, q_idx, q_sl, q_rev, q_call, q_callK, q_bi, q_pop, q_comp, q_nil, q_cons, q_snil, q_scons, t_var, t_gl, t_bl, t_cmp, t_chain, t_idx, t_call, t_callK, t_bi, t_bin, s_set, s_own, s_ownOf, s_many, s_tgt, s_aug, s_put, s_app, s_ext, s_ex, s_ret, s_retN, s_ite, s_for, s_whl, s_brk, s_cont, s_pass, s_nil, s_cons, Ev.kVar, Ev.kMv, Ev.kTup, Ev.kLst, Ev.kShd, Ev.kBin2, Ev.kBin1, Ev.kNeg, Ev.kCmp2, Ev.kCmp1, Ev.kChain3, Ev.kChain2', Ev.kChain2, Ev.kChain1, Ev.kAnd, Ev.kOr, Ev.kNot, Ev.kIte, Ev.kIdxM, Ev.kIdx3, Ev.kIdx2, Ev.kIdx1, Ev.kSl3, Ev.kO, Ev.kSl2, Ev.kSl1, Ev.kRev, Ev.kRes, Ev.kCall, Ev.kCallK2, Ev.kCallK1, Ev.kBi, Ev.kPop2, Ev.kPop, Ev.kComp3, Ev.kCond, Ev.kElt, Ev.kComp2, Ev.kComp, Ev.kEs2, Ev.kEs1, Ev.kSt2, Ev.kSt3, Ev.kSt1, Ev.kDisp, Ev.kSet, Ev.kOwn, Ev.kOwnOf2, Ev.kOwnOf, Ev.kEnv, Ev.kMany, Ev.kTgt, Ev.kAug2, Ev.kAug, Ev.kPut5, Ev.kPut4, Ev.kPut3, Ev.kPut2, Ev.kPut1, Ev.kApp3, Ev.kApp2, Ev.kApp, Ev.kExt3, Ev.kExt2, Ev.kExt, Ev.kEx, Ev.kRet, Ev.kIf, Ev.kFor2, Ev.kFor, Ev.kSeq, kTruth_bl, p_non, d_non, p_bl, d_bl, p_int, d_int, p_str, d_str, p_tup, d_tup, p_lst, d_lst, p_flst, d_flst, p_ob, d_ob, p_bor, d_own, opB_add, opB_sub, opB_mod, opB_fdiv, opC2_lt, opC2_le, opC2_gt, opC2_ge, opC2_eqI, opC2_neI, opC2_eqS, opC2_neS, opC2_eqT, opC2_neT, opC2_eqL, opC2_neL, opC2_isN, opC2_isNI, opC2_inT, opC2_ninT, idxT_tm, idxT_lm, idxT_t0, idxT_l0, idxT_t1, idxT_l1, idxT_t2, idxT_l2, idxT_t3, idxT_l3, idxT_t4, idxT_l4, idxT_t5, idxT_l5, ixN, asInt, isNul, done_ret, done_next, seqT, asg, asgs, manyGo, boolsT, allRep, Ev.sizeLine_eq, e1, e2, e3, e4, intI]
end G17
/-! Forms put together, undone, moved, in plain Lean. -/
namespace G17
open Ev PySem
def pushL (s : List It) (ts : List It) : List It := ts.foldl (fun s e => push e.1 e.2 s) s
def cat (s r : List It) : List It := pushL s r.reverse
theorem cat_nil (s : List It) : cat s [] = s := rfl
theorem cat_cons (s r : List It) (e : It) : cat s (e :: r) = push e.1 e.2 (cat s r) := by
  unfold cat pushL
  rw [List.reverse_cons, List.foldl_append]
  rfl
theorem cat_red {s : List It} (h : Red s) : ∀ r, Red (cat s r)
  | [] => h
  | e :: r => by rw [cat_cons]; exact push_red (cat_red h r)
theorem cat_push {s : List It} (hs : Red s) {p : Int × Int} {k : Int} {r : List It} (hr : Red r) : cat s (push p k r) = push p k (cat s r) := by
  cases r with
  | nil =>
    rw [push_nil]
    split
    · rename_i hk
      rw [hk, push_zero (cat_red hs [])]
    · rw [cat_cons]
  | cons e r =>
    have hc := cat_red hs r
    rw [push_cons]
    split
    · rename_i he
      rw [cat_cons, he, push_push hc]
      split
      · rename_i hz
        rw [show e.2 + k = 0 by omega, push_zero hc]
      · rw [cat_cons, Int.add_comm k e.2]
    · split
      · rename_i hk
        rw [hk, push_zero (cat_red hs _)]
      · rw [cat_cons]
theorem cat_assoc {x y : List It} (hx : Red x) (hy : Red y) : ∀ z, cat (cat x y) z = cat x (cat y z)
  | [] => rfl
  | e :: z => by rw [cat_cons, cat_cons, cat_assoc hx hy z, cat_push hx (cat_red hy z)]
theorem cat_self : ∀ {r : List It}, Red r → cat [] r = r
  | [], _ => rfl
  | e :: r, h => by
    rw [cat_cons, cat_self h.2.2]
    cases r with
    | nil => rw [push_nil, if_neg h.1]
    | cons f q => rw [push_cons, if_neg (fun z => h.2.1 f (by simp) z.symm), if_neg h.1]
def shf (a b : Int) (r : List It) : List It := r.map fun e => ((e.1.1 - a, e.1.2 - b), e.2)
theorem shf_push (a b : Int) {p : Int × Int} {k : Int} {r : List It} : shf a b (push p k r) = push (p.1 - a, p.2 - b) k (shf a b r) := by
  obtain ⟨p1, p2⟩ := p
  cases r with
  | nil =>
    rw [push_nil]
    unfold shf
    rw [List.map_nil, push_nil]
    split <;> rfl
  | cons e r =>
    obtain ⟨⟨q1, q2⟩, j⟩ := e
    have h1 : shf a b (((q1, q2), j) :: r) = ((q1 - a, q2 - b), j) :: shf a b r := rfl
    rw [h1, push_cons, push_cons]
    by_cases he : (q1, q2) = (p1, p2)
    · have he2 : ((q1 - a, q2 - b) : Int × Int) = (p1 - a, p2 - b) := by cases he; rfl
      rw [if_pos he, if_pos he2]
      split <;> rfl
    · have he2 : ¬ ((q1 - a, q2 - b) : Int × Int) = (p1 - a, p2 - b) := fun z => he (by
        injection z with z1 z2
        rw [show q1 = p1 by omega, show q2 = p2 by omega])
      rw [if_neg he, if_neg he2]
      split <;> rfl
theorem shf_shf (a b c d : Int) (r : List It) : shf a b (shf c d r) = shf (a + c) (b + d) r := by
  unfold shf
  rw [List.map_map]
  apply List.map_congr_left
  intro e _
  show ((e.1.1 - c - a, e.1.2 - d - b), e.2) = ((e.1.1 - (a + c), e.1.2 - (b + d)), e.2)
  congr 2 <;> omega
theorem shf_zero (r : List It) : shf 0 0 r = r := by
  unfold shf
  conv => rhs; rw [← List.map_id r]
  apply List.map_congr_left
  intro e _
  show ((e.1.1 - 0, e.1.2 - 0), e.2) = e
  rw [Int.sub_zero, Int.sub_zero]
theorem run_shift {s : List It} (hs : Red s) (a b : Int) : ∀ (v : W) (r : List It) (c d : Int), Red r → run (cat s (shf a b r), a + c, b + d) v = (cat s (shf a b (run (r, c, d) v).1), a + (run (r, c, d) v).2.1, b + (run (r, c, d) v).2.2)
  | [], r, c, d, _ => rfl
  | (.x, k) :: v, r, c, d, h => by
    rw [run_cons, run_cons]
    have := run_shift hs a b v r (c + k) d h
    simp only [step]
    rw [Int.add_assoc]
    exact this
  | (.y, k) :: v, r, c, d, h => by
    rw [run_cons, run_cons]
    have := run_shift hs a b v r c (d + k) h
    simp only [step]
    rw [Int.add_assoc]
    exact this
  | (.t, k) :: v, r, c, d, h => by
    rw [run_cons, run_cons]
    have h2 := run_shift hs a b v (push (-c, -d) k r) c d (push_red h)
    rw [shf_push, cat_push hs (shf_red h)] at h2
    simp only [step]
    have e : ((-(a + c), -(b + d)) : Int × Int) = (-c - a, -d - b) := by congr 1 <;> omega
    rw [e]
    exact h2
where
  shf_red : ∀ {r : List It}, Red r → Red (shf a b r)
    | [], h => h
    | e :: r, h => by
      refine ⟨h.1, fun f hf => ?_, shf_red h.2.2⟩
      cases r with
      | nil => simp [shf] at hf
      | cons g q =>
        have hg := h.2.1 g (by simp)
        simp [shf] at hf
        subst hf
        intro z
        apply hg
        obtain ⟨⟨e1, e2⟩, ek⟩ := e
        obtain ⟨⟨g1, g2⟩, gk⟩ := g
        dsimp only at z ⊢
        injection z with z1 z2
        rw [show e1 = g1 by omega, show e2 = g2 by omega]
/-- a form behind a form -/
theorem run_cat {s : List It} (hs : Red s) (a b : Int) (v : W) : run (s, a, b) v = (cat s (shf a b (run ([], 0, 0) v).1), a + (run ([], 0, 0) v).2.1, b + (run ([], 0, 0) v).2.2) := by
  have := run_shift hs a b v [] 0 0 trivial
  rw [show cat s (shf a b []) = s from rfl, Int.add_zero, Int.add_zero] at this
  exact this
/-! ### undone -/
def inv (v : W) : W := (v.map fun e => (e.1, -e.2)).reverse
theorem run_inv : ∀ {v : W} {f : Fo}, Red f.1 → run (run f v) (inv v) = f
  | [], f, h => rfl
  | e :: v, f, h => by
    have e1 : inv (e :: v) = inv v ++ [(e.1, -e.2)] := by unfold inv; rw [List.map_cons, List.reverse_cons]
    rw [e1, run_append, show run f (e :: v) = run (step f e) v from rfl, run_inv (v := v) (step_red h)]
    show step (step f e) (e.1, -e.2) = f
    obtain ⟨l, k⟩ := e
    dsimp only
    rw [step_step h, show k + -k = 0 by omega, step_zero h]
def ngt (s : List It) : List It := s.map fun e => (e.1, -e.2)
def turn (s : List It) : List It := (ngt s).reverse
theorem cat_turn : ∀ s : List It, cat s (turn s) = []
  | [] => rfl
  | e :: r => by
    have e1 : cat (e :: r) (turn (e :: r)) = pushL (push e.1 (-e.2) (e :: r)) (ngt r) := by
      unfold cat turn
      rw [List.reverse_reverse]
      rfl
    rw [e1, push_cons, if_pos rfl, if_pos (by omega)]
    have := cat_turn r
    unfold cat turn at this
    rw [List.reverse_reverse] at this
    exact this
theorem turn_turn (s : List It) : turn (turn s) = s := by
  unfold turn ngt
  rw [List.map_reverse, List.reverse_reverse, List.map_map]
  conv => rhs; rw [← List.map_id s]
  apply List.map_congr_left
  intro e _
  show (e.1, - -e.2) = e
  rw [Int.neg_neg]
theorem red_nz : ∀ {s : List It}, Red s → ∀ e ∈ s, e.2 ≠ 0
  | [], _, e, h => by cases h
  | f :: r, hr, e, h => by
    rcases List.mem_cons.mp h with rfl | h
    · exact hr.1
    · exact red_nz hr.2.2 e h
theorem red_adj : ∀ {s : List It}, Red s → ∀ (i : Nat) a b, s[i]? = some a → s[i + 1]? = some b → a.1 ≠ b.1
  | [], _, i, a, b, h, _ => by simp at h
  | f :: r, hr, 0, a, b, h, h' => by
    simp at h h'
    subst h
    exact hr.2.1 b (by rw [List.head?_eq_getElem?]; simpa using h')
  | f :: r, hr, i + 1, a, b, h, h' => red_adj hr.2.2 i a b (by simpa using h) (by simpa using h')
theorem red_of : ∀ {s : List It}, (∀ e ∈ s, e.2 ≠ 0) → (∀ (i : Nat) a b, s[i]? = some a → s[i + 1]? = some b → a.1 ≠ b.1) → Red s
  | [], _, _ => trivial
  | e :: r, h1, h2 => by
    refine ⟨h1 e (by simp), fun f hf => ?_, red_of (fun g hg => h1 g (by simp [hg])) fun i a b ha hb => h2 (i + 1) a b (by simpa using ha) (by simpa using hb)⟩
    rw [List.head?_eq_getElem?] at hf
    exact h2 0 e f rfl (by simpa using hf)
theorem red_turn {s : List It} (h : Red s) : Red (turn s) := by
  refine red_of (fun e he => ?_) fun i a b ha hb => ?_
  · obtain ⟨g, hg, rfl⟩ := List.mem_map.mp (List.mem_reverse.mp he)
    have := red_nz h g hg
    show -g.2 ≠ 0
    omega
  · unfold turn ngt at ha hb
    have l2 : i + 1 < s.length := by have := (List.getElem?_eq_some_iff.mp hb).1; simpa using this
    rw [List.getElem?_reverse (by simp; omega), List.getElem?_map] at ha
    rw [List.getElem?_reverse (by simp; omega), List.getElem?_map] at hb
    rw [List.length_map] at ha hb
    cases e1 : s[s.length - 1 - i]? with
    | none => rw [e1] at ha; cases ha
    | some x =>
      cases e2 : s[s.length - 1 - (i + 1)]? with
      | none => rw [e2] at hb; cases hb
      | some y =>
        rw [e1] at ha
        rw [e2] at hb
        cases ha
        cases hb
        have := red_adj h (s.length - 1 - (i + 1)) y x e2 (by rw [show s.length - 1 - (i + 1) + 1 = s.length - 1 - i by omega]; exact e1)
        exact fun z => this z.symm
/-- what undoes is one -/
theorem only_turn {s h : List It} (hs : Red s) (hh : Red h) (e : cat s h = []) : h = turn s := by
  have h1 : cat (turn s) s = [] := by
    have := cat_turn (turn s)
    rw [turn_turn] at this
    exact this
  have h2 := cat_assoc (x := turn s) (y := s) (red_turn hs) hs h
  rw [h1, e, cat_self hh] at h2
  rw [h2]
  rfl
theorem shf_red (a b : Int) : ∀ {r : List It}, Red r → Red (shf a b r) := fun {r} h => run_shift.shf_red a b h
theorem turn_shf (a b : Int) (s : List It) : turn (shf a b s) = shf a b (turn s) := by
  unfold turn ngt shf
  rw [List.map_map, List.map_reverse, List.map_map]
  rfl
/-- a form undone -/
theorem run_undone (u : W) : run ([], 0, 0) (inv u) = (shf (-(run ([], 0, 0) u).2.1) (-(run ([], 0, 0) u).2.2) (turn (run ([], 0, 0) u).1), -(run ([], 0, 0) u).2.1, -(run ([], 0, 0) u).2.2) := by
  have h1 := run_inv (v := u) (f := ([], 0, 0)) trivial
  have hr : Red (run ([], 0, 0) u).1 := run_red (f := ([], 0, 0)) trivial
  have hg : Red (run ([], 0, 0) (inv u)).1 := run_red (f := ([], 0, 0)) trivial
  generalize run ([], 0, 0) u = F at h1 hr ⊢
  obtain ⟨s, a, b⟩ := F
  dsimp only at hr ⊢
  rw [run_cat hr a b (inv u)] at h1
  generalize run ([], 0, 0) (inv u) = F2 at h1 hg ⊢
  obtain ⟨g, c, d⟩ := F2
  dsimp only at hg h1
  injection h1 with q1 q2
  injection q2 with q2 q3
  have q4 := only_turn hr (shf_red a b hg) q1
  have e : g = shf (-a) (-b) (turn s) := by
    rw [← q4, shf_shf, show -a + a = 0 by omega, show -b + b = 0 by omega, shf_zero]
  rw [e, show c = -a by omega, show d = -b by omega]
/-- a word moved -/
def mover (p q : Int) : W := [(.y, -q), (.x, -p)]
theorem run_mover (p q : Int) (u : W) : run ([], 0, 0) (mover p q ++ u ++ inv (mover p q)) = (shf (-p) (-q) (run ([], 0, 0) u).1, (run ([], 0, 0) u).2.1, (run ([], 0, 0) u).2.2) := by
  have hr : Red (run ([], 0, 0) u).1 := run_red (f := ([], 0, 0)) trivial
  have e1 : run ([], 0, 0) (mover p q) = ([], -p, -q) := by simp [run, mover, step]
  rw [run_append, run_append, e1, run_cat (s := []) trivial (-p) (-q) u]
  rw [cat_self (shf_red _ _ hr)]
  simp only [run, mover, inv, List.map, List.reverse_cons, List.reverse_nil, List.nil_append, List.cons_append, List.foldl, step]
  congr 2 <;> omega
end G17
/-! Forms put together. -/
namespace G17
open Ev PySem L2
def gShf (a b : Int) : Tr → Option Tr
  | .tup [.tup [.int p, .int q], .int k] => some (.tup [.tup [.int (p - a), .int (q - b)], .int k])
  | _ => none
theorem gShf_map (a b : Int) : ∀ r : List It, (r.map trP).filterMap (gShf a b) = (shf a b r).map trP
  | [] => rfl
  | e :: r => by
    rw [List.map_cons, List.filterMap_cons_some (b := trP ((e.1.1 - a, e.1.2 - b), e.2)) (by rfl), gShf_map a b r]
    rfl
theorem pushAll_app (s t : List It) : pushAll [] (s ++ t) = pushAll (pushAll [] s) t := by unfold pushAll; rw [List.foldl_append]
theorem pushAll_rev {s : List It} (h : Red s) : pushAll [] s.reverse = s := cat_self h
theorem times_of {d : Nat} {m : List Ob} {f g : Fo} (hf : Red f.1) (hg : Red g.1) (hl : f.1.length + g.1.length < 10000) : callF gc 64 fs (d + 2) 16 [trF f, trF g] m = some (trF (cat f.1 (shf f.2.1 f.2.2 g.1), f.2.1 + g.2.1, f.2.2 + g.2.2), m) := by
  rw [callS (fn := f16) rfl rfl]
  obtain ⟨s, a, b⟩ := f
  obtain ⟨r, a2, b2⟩ := g
  dsimp only at hf hg hl ⊢
  have e1 : ∀ x0 x1 x2 x5 : Slot, compGo (compF (.tp [.nm 6, .nm 7]) [x0, x1, x2, .val (.int a), .val (.int b), x5, .none, .none] (kCond gc (callF gc 64 fs (d + 1)) .nul) (kElt gc (callF gc 64 fs (d + 1)) e16_0)) (r.reverse.map trP) m [] = some ((shf a b r.reverse).map trP, m) := fun x0 x1 x2 x5 => by
    rw [compGo_map (g := gShf a b) (fun t ht => ?_) (by simp [Ev.sizeLine_eq]; omega), gShf_map]
    · rfl
    · obtain ⟨⟨⟨p, q⟩, k⟩, _, rfl⟩ := List.mem_map.mp ht
      simp [Rs.bind_ok, Rs.bind_no, Rs.of_some, q_var, q_mv, q_gl, q_int, q_str, q_bl, q_non, q_tup, q_lst, q_shd, q_disp, q_bin, q_neg, q_cmp, q_chain, q_and, q_or, q_not, q_notF, q_ite, q_idx, q_sl, q_rev, q_call, q_callK, q_bi, q_pop, q_comp, q_nil, q_cons, q_snil, q_scons, t_var, t_gl, t_bl, t_cmp, t_chain, t_idx, t_call, t_callK, t_bi, t_bin, s_set, s_own, s_ownOf, s_many, s_tgt, s_aug, s_put, s_app, s_ext, s_ex, s_ret, s_retN, s_ite, s_for, s_whl, s_brk, s_cont, s_pass, s_nil, s_cons, Ev.kVar, Ev.kMv, Ev.kTup, Ev.kLst, Ev.kShd, Ev.kBin2, Ev.kBin1, Ev.kNeg, Ev.kCmp2, Ev.kCmp1, Ev.kChain3, Ev.kChain2', Ev.kChain2, Ev.kChain1, Ev.kAnd, Ev.kOr, Ev.kNot, Ev.kIte, Ev.kIdxM, Ev.kIdx3, Ev.kIdx2, Ev.kIdx1, Ev.kSl3, Ev.kO, Ev.kSl2, Ev.kSl1, Ev.kRev, Ev.kRes, Ev.kCall, Ev.kCallK2, Ev.kCallK1, Ev.kBi, Ev.kPop2, Ev.kPop, Ev.kComp3, Ev.kCond, Ev.kElt, Ev.kComp2, Ev.kComp, Ev.kEs2, Ev.kEs1, Ev.kSt2, Ev.kSt3, Ev.kSt1, Ev.kDisp, Ev.kSet, Ev.kOwn, Ev.kOwnOf2, Ev.kOwnOf, Ev.kEnv, Ev.kMany, Ev.kTgt, Ev.kAug2, Ev.kAug, Ev.kPut5, Ev.kPut4, Ev.kPut3, Ev.kPut2, Ev.kPut1, Ev.kApp3, Ev.kApp2, Ev.kApp, Ev.kExt3, Ev.kExt2, Ev.kExt, Ev.kEx, Ev.kRet, Ev.kIf, Ev.kFor2, Ev.kFor, Ev.kSeq, kTruth_bl, p_non, d_non, p_bl, d_bl, p_int, d_int, p_str, d_str, p_tup, d_tup, p_lst, d_lst, p_flst, d_flst, p_ob, d_ob, p_bor, d_own, opB_add, opB_sub, opB_mod, opB_fdiv, opC2_lt, opC2_le, opC2_gt, opC2_ge, opC2_eqI, opC2_neI, opC2_eqS, opC2_neS, opC2_eqT, opC2_neT, opC2_eqL, opC2_neL, opC2_isN, opC2_isNI, opC2_inT, opC2_ninT, biT, idxT_tm, idxT_lm, idxT_t0, idxT_l0, idxT_t1, idxT_l1, idxT_t2, idxT_l2, idxT_t3, idxT_l3, idxT_t4, idxT_l4, idxT_t5, idxT_l5, ixN, asInt, isNul, done_ret, done_next, seqT, asg, asgs, manyGo, boolsT, allRep, Ev.sizeLine_eq, compF, e16_0, trP, gShf]
  have hs2 : shf a b r.reverse = (shf a b r).reverse := by unfold shf; rw [List.map_reverse]
  have e2 := together (d := d) (m := m) (ts := s.reverse ++ shf a b r.reverse) (by simp [shf]; omega)
  have e3 : pushAll [] (s.reverse ++ shf a b r.reverse) = cat s (shf a b r) := by
    rw [pushAll_app, pushAll_rev hf, hs2]
    rfl
  rw [e3, List.map_append] at e2
  have hi : items 0 [.tup (r.reverse.map trP)] = some (r.reverse.map trP) := rfl
  have hl1 : (s.reverse.map trP).length + ((shf a b r.reverse).map trP).length ≤ 16777216 := by simp [shf]; omega
  have hp : ∀ x ∈ s.reverse.map trP ++ (shf a b r.reverse).map trP, x.pure = true := fun x hx => by
    rcases List.mem_append.mp hx with hx | hx <;> (obtain ⟨e, _, rfl⟩ := List.mem_map.mp hx; rfl)
  rw [trF, trF, trF]
  dsimp only
  generalize (cat s (shf a b r)).reverse.map trP = R at e2 ⊢
  generalize s.reverse.map trP = S at e2 hl1 hp ⊢
  generalize r.reverse.map trP = T at e1 hi ⊢
  generalize (shf a b r.reverse).map trP = U at e1 e2 hl1 hp
  have hVl : (S ++ U).length ≤ 16777216 := by rw [List.length_append]; exact hl1
  generalize hV : S ++ U = V at e2 hp hVl
  simp [Rs.bind_ok, Rs.bind_no, Rs.of_some, q_var, q_mv, q_gl, q_int, q_str, q_bl, q_non, q_tup, q_lst, q_shd, q_disp, q_bin, q_neg, q_cmp, q_chain, q_and, q_or, q_not, q_notF, q_ite, q_idx, q_sl, q_rev, q_call, q_callK, q_bi, q_pop, q_comp, q_nil, q_cons, q_snil, q_scons, t_var, t_gl, t_bl, t_cmp, t_chain, t_idx, t_call, t_callK, t_bi, t_bin, s_set, s_own, s_ownOf, s_many, s_tgt, s_aug, s_put, s_app, s_ext, s_ex, s_ret, s_retN, s_ite, s_for, s_whl, s_brk, s_cont, s_pass, s_nil, s_cons, Ev.kVar, Ev.kMv, Ev.kTup, Ev.kLst, Ev.kShd, Ev.kBin2, Ev.kBin1, Ev.kNeg, Ev.kCmp2, Ev.kCmp1, Ev.kChain3, Ev.kChain2', Ev.kChain2, Ev.kChain1, Ev.kAnd, Ev.kOr, Ev.kNot, Ev.kIte, Ev.kIdxM, Ev.kIdx3, Ev.kIdx2, Ev.kIdx1, Ev.kSl3, Ev.kO, Ev.kSl2, Ev.kSl1, Ev.kRev, Ev.kRes, Ev.kCall, Ev.kCallK2, Ev.kCallK1, Ev.kBi, Ev.kPop2, Ev.kPop, Ev.kComp3, Ev.kCond, Ev.kElt, Ev.kComp2, Ev.kComp, Ev.kEs2, Ev.kEs1, Ev.kSt2, Ev.kSt3, Ev.kSt1, Ev.kDisp, Ev.kSet, Ev.kOwn, Ev.kOwnOf2, Ev.kOwnOf, Ev.kEnv, Ev.kMany, Ev.kTgt, Ev.kAug2, Ev.kAug, Ev.kPut5, Ev.kPut4, Ev.kPut3, Ev.kPut2, Ev.kPut1, Ev.kApp3, Ev.kApp2, Ev.kApp, Ev.kExt3, Ev.kExt2, Ev.kExt, Ev.kEx, Ev.kRet, Ev.kIf, Ev.kFor2, Ev.kFor, Ev.kSeq, kTruth_bl, p_non, d_non, p_bl, d_bl, p_int, d_int, p_str, d_str, p_tup, d_tup, p_lst, d_lst, p_flst, d_flst, p_ob, d_ob, p_bor, d_own, opB_add, opB_sub, opB_mod, opB_fdiv, opC2_lt, opC2_le, opC2_gt, opC2_ge, opC2_eqI, opC2_neI, opC2_eqS, opC2_neS, opC2_eqT, opC2_neT, opC2_eqL, opC2_neL, opC2_isN, opC2_isNI, opC2_inT, opC2_ninT, biT, idxT_tm, idxT_lm, idxT_t0, idxT_l0, idxT_t1, idxT_l1, idxT_t2, idxT_l2, idxT_t3, idxT_l3, idxT_t4, idxT_l4, idxT_t5, idxT_l5, ixN, asInt, isNul, done_ret, done_next, seqT, asg, asgs, manyGo, boolsT, allRep, Ev.sizeLine_eq, f16, b16, hi, wipeE, Slot.lock, e1, e2, hV]
  rw [if_pos ⟨hp, decide_eq_true hVl⟩]
  simp [Rs.bind_ok, Rs.bind_no, Rs.of_some, q_var, q_mv, q_gl, q_int, q_str, q_bl, q_non, q_tup, q_lst, q_shd, q_disp, q_bin, q_neg, q_cmp, q_chain, q_and, q_or, q_not, q_notF, q_ite, q_idx, q_sl, q_rev, q_call, q_callK, q_bi, q_pop, q_comp, q_nil, q_cons, q_snil, q_scons, t_var, t_gl, t_bl, t_cmp, t_chain, t_idx, t_call, t_callK, t_bi, t_bin, s_set, s_own, s_ownOf, s_many, s_tgt, s_aug, s_put, s_app, s_ext, s_ex, s_ret, s_retN, s_ite, s_for, s_whl, s_brk, s_cont, s_pass, s_nil, s_cons, Ev.kVar, Ev.kMv, Ev.kTup, Ev.kLst, Ev.kShd, Ev.kBin2, Ev.kBin1, Ev.kNeg, Ev.kCmp2, Ev.kCmp1, Ev.kChain3, Ev.kChain2', Ev.kChain2, Ev.kChain1, Ev.kAnd, Ev.kOr, Ev.kNot, Ev.kIte, Ev.kIdxM, Ev.kIdx3, Ev.kIdx2, Ev.kIdx1, Ev.kSl3, Ev.kO, Ev.kSl2, Ev.kSl1, Ev.kRev, Ev.kRes, Ev.kCall, Ev.kCallK2, Ev.kCallK1, Ev.kBi, Ev.kPop2, Ev.kPop, Ev.kComp3, Ev.kCond, Ev.kElt, Ev.kComp2, Ev.kComp, Ev.kEs2, Ev.kEs1, Ev.kSt2, Ev.kSt3, Ev.kSt1, Ev.kDisp, Ev.kSet, Ev.kOwn, Ev.kOwnOf2, Ev.kOwnOf, Ev.kEnv, Ev.kMany, Ev.kTgt, Ev.kAug2, Ev.kAug, Ev.kPut5, Ev.kPut4, Ev.kPut3, Ev.kPut2, Ev.kPut1, Ev.kApp3, Ev.kApp2, Ev.kApp, Ev.kExt3, Ev.kExt2, Ev.kExt, Ev.kEx, Ev.kRet, Ev.kIf, Ev.kFor2, Ev.kFor, Ev.kSeq, kTruth_bl, p_non, d_non, p_bl, d_bl, p_int, d_int, p_str, d_str, p_tup, d_tup, p_lst, d_lst, p_flst, d_flst, p_ob, d_ob, p_bor, d_own, opB_add, opB_sub, opB_mod, opB_fdiv, opC2_lt, opC2_le, opC2_gt, opC2_ge, opC2_eqI, opC2_neI, opC2_eqS, opC2_neS, opC2_eqT, opC2_neT, opC2_eqL, opC2_neL, opC2_isN, opC2_isNI, opC2_inT, opC2_ninT, biT, idxT_tm, idxT_lm, idxT_t0, idxT_l0, idxT_t1, idxT_l1, idxT_t2, idxT_l2, idxT_t3, idxT_l3, idxT_t4, idxT_l4, idxT_t5, idxT_l5, ixN, asInt, isNul, done_ret, done_next, seqT, asg, asgs, manyGo, boolsT, allRep, Ev.sizeLine_eq, e2]
theorem times {d : Nat} {m : List Ob} {u v : W} (hl : u.length + v.length < 10000) : callF gc 64 fs (d + 7) 7 [trF (run ([], 0, 0) u), trF (run ([], 0, 0) v)] m = some (trF (run ([], 0, 0) (u ++ v)), m) := by
  rw [callS (fn := f7) rfl rfl]
  have hu : Red (run ([], 0, 0) u).1 := run_red (f := ([], 0, 0)) trivial
  have hv : Red (run ([], 0, 0) v).1 := run_red (f := ([], 0, 0)) trivial
  have lu := run_len u ([], 0, 0)
  have lv := run_len v ([], 0, 0)
  have c1 := check_form (d := d) (m := m) hu (by simp at lu; omega)
  have c2 := check_form (d := d) (m := m) hv (by simp at lv; omega)
  have t := times_of (d := d + 4) (m := m) hu hv (by simp at lu lv; omega)
  rw [run_append, show run (run ([], 0, 0) u) v = ((cat (run ([], 0, 0) u).1 (shf (run ([], 0, 0) u).2.1 (run ([], 0, 0) u).2.2 (run ([], 0, 0) v).1), (run ([], 0, 0) u).2.1 + (run ([], 0, 0) v).2.1, (run ([], 0, 0) u).2.2 + (run ([], 0, 0) v).2.2) : Fo) from run_cat hu _ _ v]
  have p1 : (trF (run ([], 0, 0) u)).pure = true := rfl
  have p2 : (trF (run ([], 0, 0) v)).pure = true := rfl
  generalize trF (run ([], 0, 0) u) = U at c1 t p1 ⊢
  generalize trF (run ([], 0, 0) v) = V at c2 t p2 ⊢
  have p3 : (trF (cat (run ([], 0, 0) u).1 (shf (run ([], 0, 0) u).2.1 (run ([], 0, 0) u).2.2 (run ([], 0, 0) v).1), (run ([], 0, 0) u).2.1 + (run ([], 0, 0) v).2.1, (run ([], 0, 0) u).2.2 + (run ([], 0, 0) v).2.2)).pure = true := rfl
  generalize trF (cat (run ([], 0, 0) u).1 (shf (run ([], 0, 0) u).2.1 (run ([], 0, 0) u).2.2 (run ([], 0, 0) v).1), (run ([], 0, 0) u).2.1 + (run ([], 0, 0) v).2.1, (run ([], 0, 0) u).2.2 + (run ([], 0, 0) v).2.2) = T at t p3 ⊢
  have t' : callF gc 64 fs (d + 6) 16 [U, V] m = some (T, m) := t
  simp [Rs.bind_ok, Rs.bind_no, Rs.of_some, q_var, q_mv, q_gl, q_int, q_str, q_bl, q_non, q_tup, q_lst, q_shd, q_disp, q_bin, q_neg, q_cmp, q_chain, q_and, q_or, q_not, q_notF, q_ite, q_idx, q_sl, q_rev, q_call, q_callK, q_bi, q_pop, q_comp, q_nil, q_cons, q_snil, q_scons, t_var, t_gl, t_bl, t_cmp, t_chain, t_idx, t_call, t_callK, t_bi, t_bin, s_set, s_own, s_ownOf, s_many, s_tgt, s_aug, s_put, s_app, s_ext, s_ex, s_ret, s_retN, s_ite, s_for, s_whl, s_brk, s_cont, s_pass, s_nil, s_cons, Ev.kVar, Ev.kMv, Ev.kTup, Ev.kLst, Ev.kShd, Ev.kBin2, Ev.kBin1, Ev.kNeg, Ev.kCmp2, Ev.kCmp1, Ev.kChain3, Ev.kChain2', Ev.kChain2, Ev.kChain1, Ev.kAnd, Ev.kOr, Ev.kNot, Ev.kIte, Ev.kIdxM, Ev.kIdx3, Ev.kIdx2, Ev.kIdx1, Ev.kSl3, Ev.kO, Ev.kSl2, Ev.kSl1, Ev.kRev, Ev.kRes, Ev.kCall, Ev.kCallK2, Ev.kCallK1, Ev.kBi, Ev.kPop2, Ev.kPop, Ev.kComp3, Ev.kCond, Ev.kElt, Ev.kComp2, Ev.kComp, Ev.kEs2, Ev.kEs1, Ev.kSt2, Ev.kSt3, Ev.kSt1, Ev.kDisp, Ev.kSet, Ev.kOwn, Ev.kOwnOf2, Ev.kOwnOf, Ev.kEnv, Ev.kMany, Ev.kTgt, Ev.kAug2, Ev.kAug, Ev.kPut5, Ev.kPut4, Ev.kPut3, Ev.kPut2, Ev.kPut1, Ev.kApp3, Ev.kApp2, Ev.kApp, Ev.kExt3, Ev.kExt2, Ev.kExt, Ev.kEx, Ev.kRet, Ev.kIf, Ev.kFor2, Ev.kFor, Ev.kSeq, kTruth_bl, p_non, d_non, p_bl, d_bl, p_int, d_int, p_str, d_str, p_tup, d_tup, p_lst, d_lst, p_flst, d_flst, p_ob, d_ob, p_bor, d_own, opB_add, opB_sub, opB_mod, opB_fdiv, opC2_lt, opC2_le, opC2_gt, opC2_ge, opC2_eqI, opC2_neI, opC2_eqS, opC2_neS, opC2_eqT, opC2_neT, opC2_eqL, opC2_neL, opC2_isN, opC2_isNI, opC2_inT, opC2_ninT, biT, idxT_tm, idxT_lm, idxT_t0, idxT_l0, idxT_t1, idxT_l1, idxT_t2, idxT_l2, idxT_t3, idxT_l3, idxT_t4, idxT_l4, idxT_t5, idxT_l5, ixN, asInt, isNul, done_ret, done_next, seqT, asg, asgs, manyGo, boolsT, allRep, Ev.sizeLine_eq, f7, b7, c1, c2, t', p1, p2, p3]
end G17
/-! Forms undone. -/
namespace G17
open Ev PySem L2
def gNeg : Tr → Option Tr
  | .tup [p, .int k] => some (.tup [p, .int (-k)])
  | _ => none
theorem gNeg_map : ∀ r : List It, (r.map trP).filterMap gNeg = (ngt r).map trP
  | [] => rfl
  | e :: r => by
    rw [List.map_cons, List.filterMap_cons_some (b := trP (e.1, -e.2)) (by rfl), gNeg_map r]
    rfl
theorem undone_form {d : Nat} {m : List Ob} {u : W} (hl : u.length < 5000) : callF gc 64 fs (d + 3) 17 [trF (run ([], 0, 0) u)] m = some (trF (run ([], 0, 0) (inv u)), m) := by
  rw [callS (fn := f17) rfl rfl, run_undone u]
  have hu : Red (run ([], 0, 0) u).1 := run_red (f := ([], 0, 0)) trivial
  have lu := run_len u ([], 0, 0)
  generalize run ([], 0, 0) u = F at hu lu ⊢
  obtain ⟨s, a, b⟩ := F
  dsimp only at hu lu ⊢
  have e1 : ∀ x0 x1 x2 x3 x4 : Slot, compGo (compF (.tp [.nm 5, .nm 6]) [x0, x1, x2, x3, x4, .none, .none] (kCond gc (callF gc 64 fs (d + 2)) .nul) (kElt gc (callF gc 64 fs (d + 2)) e17_0)) (s.map trP) m [] = some ((ngt s).map trP, m) := fun x0 x1 x2 x3 x4 => by
    rw [compGo_map (g := gNeg) (fun t ht => ?_) (by simp [Ev.sizeLine_eq]; simp at lu; omega), gNeg_map]
    · rfl
    · obtain ⟨⟨⟨p, q⟩, k⟩, _, rfl⟩ := List.mem_map.mp ht
      simp [Rs.bind_ok, Rs.bind_no, Rs.of_some, q_var, q_mv, q_gl, q_int, q_str, q_bl, q_non, q_tup, q_lst, q_shd, q_disp, q_bin, q_neg, q_cmp, q_chain, q_and, q_or, q_not, q_notF, q_ite, q_idx, q_sl, q_rev, q_call, q_callK, q_bi, q_pop, q_comp, q_nil, q_cons, q_snil, q_scons, t_var, t_gl, t_bl, t_cmp, t_chain, t_idx, t_call, t_callK, t_bi, t_bin, s_set, s_own, s_ownOf, s_many, s_tgt, s_aug, s_put, s_app, s_ext, s_ex, s_ret, s_retN, s_ite, s_for, s_whl, s_brk, s_cont, s_pass, s_nil, s_cons, Ev.kVar, Ev.kMv, Ev.kTup, Ev.kLst, Ev.kShd, Ev.kBin2, Ev.kBin1, Ev.kNeg, Ev.kCmp2, Ev.kCmp1, Ev.kChain3, Ev.kChain2', Ev.kChain2, Ev.kChain1, Ev.kAnd, Ev.kOr, Ev.kNot, Ev.kIte, Ev.kIdxM, Ev.kIdx3, Ev.kIdx2, Ev.kIdx1, Ev.kSl3, Ev.kO, Ev.kSl2, Ev.kSl1, Ev.kRev, Ev.kRes, Ev.kCall, Ev.kCallK2, Ev.kCallK1, Ev.kBi, Ev.kPop2, Ev.kPop, Ev.kComp3, Ev.kCond, Ev.kElt, Ev.kComp2, Ev.kComp, Ev.kEs2, Ev.kEs1, Ev.kSt2, Ev.kSt3, Ev.kSt1, Ev.kDisp, Ev.kSet, Ev.kOwn, Ev.kOwnOf2, Ev.kOwnOf, Ev.kEnv, Ev.kMany, Ev.kTgt, Ev.kAug2, Ev.kAug, Ev.kPut5, Ev.kPut4, Ev.kPut3, Ev.kPut2, Ev.kPut1, Ev.kApp3, Ev.kApp2, Ev.kApp, Ev.kExt3, Ev.kExt2, Ev.kExt, Ev.kEx, Ev.kRet, Ev.kIf, Ev.kFor2, Ev.kFor, Ev.kSeq, kTruth_bl, p_non, d_non, p_bl, d_bl, p_int, d_int, p_str, d_str, p_tup, d_tup, p_lst, d_lst, p_flst, d_flst, p_ob, d_ob, p_bor, d_own, opB_add, opB_sub, opB_mod, opB_fdiv, opC2_lt, opC2_le, opC2_gt, opC2_ge, opC2_eqI, opC2_neI, opC2_eqS, opC2_neS, opC2_eqT, opC2_neT, opC2_eqL, opC2_neL, opC2_isN, opC2_isNI, opC2_inT, opC2_ninT, biT, idxT_tm, idxT_lm, idxT_t0, idxT_l0, idxT_t1, idxT_l1, idxT_t2, idxT_l2, idxT_t3, idxT_l3, idxT_t4, idxT_l4, idxT_t5, idxT_l5, ixN, asInt, isNul, done_ret, done_next, seqT, asg, asgs, manyGo, boolsT, allRep, Ev.sizeLine_eq, compF, e17_0, trP, gNeg]
  have hr : (s.reverse.map trP).reverse = s.map trP := by rw [← List.map_reverse, List.reverse_reverse]
  have ht : (turn s).reverse = ngt s := by unfold turn; rw [List.reverse_reverse]
  have t := times_of (d := d) (m := m) (f := ([], -a, -b)) (g := (turn s, 0, 0)) trivial (red_turn hu) (by simp [turn, ngt]; simp at lu; omega)
  dsimp only at t
  rw [cat_self (shf_red _ _ (red_turn hu)), Int.add_zero, Int.add_zero] at t
  have hi : items 0 [.tup (s.map trP)] = some (s.map trP) := rfl
  have t1 : trF ([], -a, -b) = .tup [.tup [], .int (-a), .int (-b)] := rfl
  have t2 : trF (turn s, 0, 0) = .tup [.tup ((ngt s).map trP), .int 0, .int 0] := by rw [trF]; dsimp only; rw [ht]
  rw [t1, t2] at t
  have p3 : (trF (shf (-a) (-b) (turn s), -a, -b)).pure = true := rfl
  generalize trF (shf (-a) (-b) (turn s), -a, -b) = T at t p3 ⊢
  rw [trF]
  dsimp only
  generalize s.reverse.map trP = S at hr ⊢
  generalize s.map trP = S2 at hr e1 hi
  generalize (ngt s).map trP = N at e1 t
  simp [Rs.bind_ok, Rs.bind_no, Rs.of_some, q_var, q_mv, q_gl, q_int, q_str, q_bl, q_non, q_tup, q_lst, q_shd, q_disp, q_bin, q_neg, q_cmp, q_chain, q_and, q_or, q_not, q_notF, q_ite, q_idx, q_sl, q_rev, q_call, q_callK, q_bi, q_pop, q_comp, q_nil, q_cons, q_snil, q_scons, t_var, t_gl, t_bl, t_cmp, t_chain, t_idx, t_call, t_callK, t_bi, t_bin, s_set, s_own, s_ownOf, s_many, s_tgt, s_aug, s_put, s_app, s_ext, s_ex, s_ret, s_retN, s_ite, s_for, s_whl, s_brk, s_cont, s_pass, s_nil, s_cons, Ev.kVar, Ev.kMv, Ev.kTup, Ev.kLst, Ev.kShd, Ev.kBin2, Ev.kBin1, Ev.kNeg, Ev.kCmp2, Ev.kCmp1, Ev.kChain3, Ev.kChain2', Ev.kChain2, Ev.kChain1, Ev.kAnd, Ev.kOr, Ev.kNot, Ev.kIte, Ev.kIdxM, Ev.kIdx3, Ev.kIdx2, Ev.kIdx1, Ev.kSl3, Ev.kO, Ev.kSl2, Ev.kSl1, Ev.kRev, Ev.kRes, Ev.kCall, Ev.kCallK2, Ev.kCallK1, Ev.kBi, Ev.kPop2, Ev.kPop, Ev.kComp3, Ev.kCond, Ev.kElt, Ev.kComp2, Ev.kComp, Ev.kEs2, Ev.kEs1, Ev.kSt2, Ev.kSt3, Ev.kSt1, Ev.kDisp, Ev.kSet, Ev.kOwn, Ev.kOwnOf2, Ev.kOwnOf, Ev.kEnv, Ev.kMany, Ev.kTgt, Ev.kAug2, Ev.kAug, Ev.kPut5, Ev.kPut4, Ev.kPut3, Ev.kPut2, Ev.kPut1, Ev.kApp3, Ev.kApp2, Ev.kApp, Ev.kExt3, Ev.kExt2, Ev.kExt, Ev.kEx, Ev.kRet, Ev.kIf, Ev.kFor2, Ev.kFor, Ev.kSeq, kTruth_bl, p_non, d_non, p_bl, d_bl, p_int, d_int, p_str, d_str, p_tup, d_tup, p_lst, d_lst, p_flst, d_flst, p_ob, d_ob, p_bor, d_own, opB_add, opB_sub, opB_mod, opB_fdiv, opC2_lt, opC2_le, opC2_gt, opC2_ge, opC2_eqI, opC2_neI, opC2_eqS, opC2_neS, opC2_eqT, opC2_neT, opC2_eqL, opC2_neL, opC2_isN, opC2_isNI, opC2_inT, opC2_ninT, biT, idxT_tm, idxT_lm, idxT_t0, idxT_l0, idxT_t1, idxT_l1, idxT_t2, idxT_l2, idxT_t3, idxT_l3, idxT_t4, idxT_l4, idxT_t5, idxT_l5, ixN, asInt, isNul, done_ret, done_next, seqT, asg, asgs, manyGo, boolsT, allRep, Ev.sizeLine_eq, f17, b17, hr, hi, wipeE, Slot.lock, e1, t, p3]
theorem form_undone {d : Nat} {m : List Ob} {u : W} (hl : u.length < 5000) : callF gc 64 fs (d + 7) 8 [trF (run ([], 0, 0) u)] m = some (trF (run ([], 0, 0) (inv u)), m) := by
  rw [callS (fn := f8) rfl rfl]
  have hu : Red (run ([], 0, 0) u).1 := run_red (f := ([], 0, 0)) trivial
  have lu := run_len u ([], 0, 0)
  have c1 := check_form (d := d) (m := m) hu (by simp at lu; omega)
  have t : callF gc 64 fs (d + 6) 17 [trF (run ([], 0, 0) u)] m = some (trF (run ([], 0, 0) (inv u)), m) := undone_form (d := d + 3) hl
  have p1 : (trF (run ([], 0, 0) u)).pure = true := rfl
  have p2 : (trF (run ([], 0, 0) (inv u))).pure = true := rfl
  generalize trF (run ([], 0, 0) u) = U at c1 t p1 ⊢
  generalize trF (run ([], 0, 0) (inv u)) = V at t p2 ⊢
  simp [Rs.bind_ok, Rs.bind_no, Rs.of_some, q_var, q_mv, q_gl, q_int, q_str, q_bl, q_non, q_tup, q_lst, q_shd, q_disp, q_bin, q_neg, q_cmp, q_chain, q_and, q_or, q_not, q_notF, q_ite, q_idx, q_sl, q_rev, q_call, q_callK, q_bi, q_pop, q_comp, q_nil, q_cons, q_snil, q_scons, t_var, t_gl, t_bl, t_cmp, t_chain, t_idx, t_call, t_callK, t_bi, t_bin, s_set, s_own, s_ownOf, s_many, s_tgt, s_aug, s_put, s_app, s_ext, s_ex, s_ret, s_retN, s_ite, s_for, s_whl, s_brk, s_cont, s_pass, s_nil, s_cons, Ev.kVar, Ev.kMv, Ev.kTup, Ev.kLst, Ev.kShd, Ev.kBin2, Ev.kBin1, Ev.kNeg, Ev.kCmp2, Ev.kCmp1, Ev.kChain3, Ev.kChain2', Ev.kChain2, Ev.kChain1, Ev.kAnd, Ev.kOr, Ev.kNot, Ev.kIte, Ev.kIdxM, Ev.kIdx3, Ev.kIdx2, Ev.kIdx1, Ev.kSl3, Ev.kO, Ev.kSl2, Ev.kSl1, Ev.kRev, Ev.kRes, Ev.kCall, Ev.kCallK2, Ev.kCallK1, Ev.kBi, Ev.kPop2, Ev.kPop, Ev.kComp3, Ev.kCond, Ev.kElt, Ev.kComp2, Ev.kComp, Ev.kEs2, Ev.kEs1, Ev.kSt2, Ev.kSt3, Ev.kSt1, Ev.kDisp, Ev.kSet, Ev.kOwn, Ev.kOwnOf2, Ev.kOwnOf, Ev.kEnv, Ev.kMany, Ev.kTgt, Ev.kAug2, Ev.kAug, Ev.kPut5, Ev.kPut4, Ev.kPut3, Ev.kPut2, Ev.kPut1, Ev.kApp3, Ev.kApp2, Ev.kApp, Ev.kExt3, Ev.kExt2, Ev.kExt, Ev.kEx, Ev.kRet, Ev.kIf, Ev.kFor2, Ev.kFor, Ev.kSeq, kTruth_bl, p_non, d_non, p_bl, d_bl, p_int, d_int, p_str, d_str, p_tup, d_tup, p_lst, d_lst, p_flst, d_flst, p_ob, d_ob, p_bor, d_own, opB_add, opB_sub, opB_mod, opB_fdiv, opC2_lt, opC2_le, opC2_gt, opC2_ge, opC2_eqI, opC2_neI, opC2_eqS, opC2_neS, opC2_eqT, opC2_neT, opC2_eqL, opC2_neL, opC2_isN, opC2_isNI, opC2_inT, opC2_ninT, biT, idxT_tm, idxT_lm, idxT_t0, idxT_l0, idxT_t1, idxT_l1, idxT_t2, idxT_l2, idxT_t3, idxT_l3, idxT_t4, idxT_l4, idxT_t5, idxT_l5, ixN, asInt, isNul, done_ret, done_next, seqT, asg, asgs, manyGo, boolsT, allRep, Ev.sizeLine_eq, f8, b8, c1, t, p1, p2]
end G17
/-! Forms moved; words undone. -/
namespace G17
open Ev PySem L2
def gMv (p q : Int) : Tr → Option Tr
  | .tup [.tup [.int x, .int y], .int k] => some (.tup [.tup [.int (x + p), .int (y + q)], .int k])
  | _ => none
theorem gMv_map (p q : Int) : ∀ r : List It, (r.map trP).filterMap (gMv p q) = (shf (-p) (-q) r).map trP
  | [] => rfl
  | e :: r => by
    rw [List.map_cons, List.filterMap_cons_some (b := trP ((e.1.1 + p, e.1.2 + q), e.2)) (by rfl), gMv_map p q r]
    show _ = trP ((e.1.1 - -p, e.1.2 - -q), e.2) :: _
    rw [Int.sub_neg, Int.sub_neg]
    rfl
theorem check_pair {d : Nat} {m : List Ob} {p q : Int} : callF gc 64 fs (d + 4) 18 [.tup [.int p, .int q]] m = some (.non, m) := by
  rw [callS (fn := f18) rfl rfl]
  have h := pair2 (d := d) (m := m) (a := p) (b := q)
  simp [Rs.bind_ok, Rs.bind_no, Rs.of_some, q_var, q_mv, q_gl, q_int, q_str, q_bl, q_non, q_tup, q_lst, q_shd, q_disp, q_bin, q_neg, q_cmp, q_chain, q_and, q_or, q_not, q_notF, q_ite, q_idx, q_sl, q_rev, q_call, q_callK, q_bi, q_pop, q_comp, q_nil, q_cons, q_snil, q_scons, t_var, t_gl, t_bl, t_cmp, t_chain, t_idx, t_call, t_callK, t_bi, t_bin, s_set, s_own, s_ownOf, s_many, s_tgt, s_aug, s_put, s_app, s_ext, s_ex, s_ret, s_retN, s_ite, s_for, s_whl, s_brk, s_cont, s_pass, s_nil, s_cons, Ev.kVar, Ev.kMv, Ev.kTup, Ev.kLst, Ev.kShd, Ev.kBin2, Ev.kBin1, Ev.kNeg, Ev.kCmp2, Ev.kCmp1, Ev.kChain3, Ev.kChain2', Ev.kChain2, Ev.kChain1, Ev.kAnd, Ev.kOr, Ev.kNot, Ev.kIte, Ev.kIdxM, Ev.kIdx3, Ev.kIdx2, Ev.kIdx1, Ev.kSl3, Ev.kO, Ev.kSl2, Ev.kSl1, Ev.kRev, Ev.kRes, Ev.kCall, Ev.kCallK2, Ev.kCallK1, Ev.kBi, Ev.kPop2, Ev.kPop, Ev.kComp3, Ev.kCond, Ev.kElt, Ev.kComp2, Ev.kComp, Ev.kEs2, Ev.kEs1, Ev.kSt2, Ev.kSt3, Ev.kSt1, Ev.kDisp, Ev.kSet, Ev.kOwn, Ev.kOwnOf2, Ev.kOwnOf, Ev.kEnv, Ev.kMany, Ev.kTgt, Ev.kAug2, Ev.kAug, Ev.kPut5, Ev.kPut4, Ev.kPut3, Ev.kPut2, Ev.kPut1, Ev.kApp3, Ev.kApp2, Ev.kApp, Ev.kExt3, Ev.kExt2, Ev.kExt, Ev.kEx, Ev.kRet, Ev.kIf, Ev.kFor2, Ev.kFor, Ev.kSeq, kTruth_bl, p_non, d_non, p_bl, d_bl, p_int, d_int, p_str, d_str, p_tup, d_tup, p_lst, d_lst, p_flst, d_flst, p_ob, d_ob, p_bor, d_own, opB_add, opB_sub, opB_mod, opB_fdiv, opC2_lt, opC2_le, opC2_gt, opC2_ge, opC2_eqI, opC2_neI, opC2_eqS, opC2_neS, opC2_eqT, opC2_neT, opC2_eqL, opC2_neL, opC2_isN, opC2_isNI, opC2_inT, opC2_ninT, biT, idxT_tm, idxT_lm, idxT_t0, idxT_l0, idxT_t1, idxT_l1, idxT_t2, idxT_l2, idxT_t3, idxT_l3, idxT_t4, idxT_l4, idxT_t5, idxT_l5, ixN, asInt, isNul, done_ret, done_next, seqT, asg, asgs, manyGo, boolsT, allRep, Ev.sizeLine_eq, f18, b18, h]
theorem moved_form {d : Nat} {m : List Ob} {u : W} {p q : Int} (hl : u.length < 5000) : callF gc 64 fs (d + 7) 11 [trF (run ([], 0, 0) u), .tup [.int p, .int q]] m = some (trF (run ([], 0, 0) (mover p q ++ u ++ inv (mover p q))), m) := by
  rw [callS (fn := f11) rfl rfl, run_mover p q u]
  have hu : Red (run ([], 0, 0) u).1 := run_red (f := ([], 0, 0)) trivial
  have lu := run_len u ([], 0, 0)
  have c1 := check_form (d := d) (m := m) hu (by simp at lu; omega)
  have c2 : callF gc 64 fs (d + 6) 18 [.tup [.int p, .int q]] m = some (.non, m) := check_pair (d := d + 2)
  generalize run ([], 0, 0) u = F at hu lu c1 ⊢
  obtain ⟨s, a, b⟩ := F
  dsimp only at hu lu ⊢
  have e1 : ∀ x0 x1 : Slot, compGo (compF (.tp [.nm 4, .nm 5]) [x0, x1, .val (.int p), .val (.int q), .none, .none] (kCond gc (callF gc 64 fs (d + 6)) .nul) (kElt gc (callF gc 64 fs (d + 6)) e11_0)) (s.reverse.map trP) m [] = some ((shf (-p) (-q) s.reverse).map trP, m) := fun x0 x1 => by
    rw [compGo_map (g := gMv p q) (fun t ht => ?_) (by simp [Ev.sizeLine_eq]; simp at lu; omega), gMv_map]
    · rfl
    · obtain ⟨⟨⟨x, y⟩, k⟩, _, rfl⟩ := List.mem_map.mp ht
      simp [Rs.bind_ok, Rs.bind_no, Rs.of_some, q_var, q_mv, q_gl, q_int, q_str, q_bl, q_non, q_tup, q_lst, q_shd, q_disp, q_bin, q_neg, q_cmp, q_chain, q_and, q_or, q_not, q_notF, q_ite, q_idx, q_sl, q_rev, q_call, q_callK, q_bi, q_pop, q_comp, q_nil, q_cons, q_snil, q_scons, t_var, t_gl, t_bl, t_cmp, t_chain, t_idx, t_call, t_callK, t_bi, t_bin, s_set, s_own, s_ownOf, s_many, s_tgt, s_aug, s_put, s_app, s_ext, s_ex, s_ret, s_retN, s_ite, s_for, s_whl, s_brk, s_cont, s_pass, s_nil, s_cons, Ev.kVar, Ev.kMv, Ev.kTup, Ev.kLst, Ev.kShd, Ev.kBin2, Ev.kBin1, Ev.kNeg, Ev.kCmp2, Ev.kCmp1, Ev.kChain3, Ev.kChain2', Ev.kChain2, Ev.kChain1, Ev.kAnd, Ev.kOr, Ev.kNot, Ev.kIte, Ev.kIdxM, Ev.kIdx3, Ev.kIdx2, Ev.kIdx1, Ev.kSl3, Ev.kO, Ev.kSl2, Ev.kSl1, Ev.kRev, Ev.kRes, Ev.kCall, Ev.kCallK2, Ev.kCallK1, Ev.kBi, Ev.kPop2, Ev.kPop, Ev.kComp3, Ev.kCond, Ev.kElt, Ev.kComp2, Ev.kComp, Ev.kEs2, Ev.kEs1, Ev.kSt2, Ev.kSt3, Ev.kSt1, Ev.kDisp, Ev.kSet, Ev.kOwn, Ev.kOwnOf2, Ev.kOwnOf, Ev.kEnv, Ev.kMany, Ev.kTgt, Ev.kAug2, Ev.kAug, Ev.kPut5, Ev.kPut4, Ev.kPut3, Ev.kPut2, Ev.kPut1, Ev.kApp3, Ev.kApp2, Ev.kApp, Ev.kExt3, Ev.kExt2, Ev.kExt, Ev.kEx, Ev.kRet, Ev.kIf, Ev.kFor2, Ev.kFor, Ev.kSeq, kTruth_bl, p_non, d_non, p_bl, d_bl, p_int, d_int, p_str, d_str, p_tup, d_tup, p_lst, d_lst, p_flst, d_flst, p_ob, d_ob, p_bor, d_own, opB_add, opB_sub, opB_mod, opB_fdiv, opC2_lt, opC2_le, opC2_gt, opC2_ge, opC2_eqI, opC2_neI, opC2_eqS, opC2_neS, opC2_eqT, opC2_neT, opC2_eqL, opC2_neL, opC2_isN, opC2_isNI, opC2_inT, opC2_ninT, biT, idxT_tm, idxT_lm, idxT_t0, idxT_l0, idxT_t1, idxT_l1, idxT_t2, idxT_l2, idxT_t3, idxT_l3, idxT_t4, idxT_l4, idxT_t5, idxT_l5, ixN, asInt, isNul, done_ret, done_next, seqT, asg, asgs, manyGo, boolsT, allRep, Ev.sizeLine_eq, compF, e11_0, trP, gMv]
  have hi : items 0 [.tup (s.reverse.map trP)] = some (s.reverse.map trP) := rfl
  have hs2 : (shf (-p) (-q) s).reverse = shf (-p) (-q) s.reverse := by unfold shf; rw [List.map_reverse]
  rw [trF, trF] at *
  dsimp only at c1 ⊢
  rw [hs2]
  generalize s.reverse.map trP = S at c1 e1 hi ⊢
  generalize (shf (-p) (-q) s.reverse).map trP = N at e1 ⊢
  simp [Rs.bind_ok, Rs.bind_no, Rs.of_some, q_var, q_mv, q_gl, q_int, q_str, q_bl, q_non, q_tup, q_lst, q_shd, q_disp, q_bin, q_neg, q_cmp, q_chain, q_and, q_or, q_not, q_notF, q_ite, q_idx, q_sl, q_rev, q_call, q_callK, q_bi, q_pop, q_comp, q_nil, q_cons, q_snil, q_scons, t_var, t_gl, t_bl, t_cmp, t_chain, t_idx, t_call, t_callK, t_bi, t_bin, s_set, s_own, s_ownOf, s_many, s_tgt, s_aug, s_put, s_app, s_ext, s_ex, s_ret, s_retN, s_ite, s_for, s_whl, s_brk, s_cont, s_pass, s_nil, s_cons, Ev.kVar, Ev.kMv, Ev.kTup, Ev.kLst, Ev.kShd, Ev.kBin2, Ev.kBin1, Ev.kNeg, Ev.kCmp2, Ev.kCmp1, Ev.kChain3, Ev.kChain2', Ev.kChain2, Ev.kChain1, Ev.kAnd, Ev.kOr, Ev.kNot, Ev.kIte, Ev.kIdxM, Ev.kIdx3, Ev.kIdx2, Ev.kIdx1, Ev.kSl3, Ev.kO, Ev.kSl2, Ev.kSl1, Ev.kRev, Ev.kRes, Ev.kCall, Ev.kCallK2, Ev.kCallK1, Ev.kBi, Ev.kPop2, Ev.kPop, Ev.kComp3, Ev.kCond, Ev.kElt, Ev.kComp2, Ev.kComp, Ev.kEs2, Ev.kEs1, Ev.kSt2, Ev.kSt3, Ev.kSt1, Ev.kDisp, Ev.kSet, Ev.kOwn, Ev.kOwnOf2, Ev.kOwnOf, Ev.kEnv, Ev.kMany, Ev.kTgt, Ev.kAug2, Ev.kAug, Ev.kPut5, Ev.kPut4, Ev.kPut3, Ev.kPut2, Ev.kPut1, Ev.kApp3, Ev.kApp2, Ev.kApp, Ev.kExt3, Ev.kExt2, Ev.kExt, Ev.kEx, Ev.kRet, Ev.kIf, Ev.kFor2, Ev.kFor, Ev.kSeq, kTruth_bl, p_non, d_non, p_bl, d_bl, p_int, d_int, p_str, d_str, p_tup, d_tup, p_lst, d_lst, p_flst, d_flst, p_ob, d_ob, p_bor, d_own, opB_add, opB_sub, opB_mod, opB_fdiv, opC2_lt, opC2_le, opC2_gt, opC2_ge, opC2_eqI, opC2_neI, opC2_eqS, opC2_neS, opC2_eqT, opC2_neT, opC2_eqL, opC2_neL, opC2_isN, opC2_isNI, opC2_inT, opC2_ninT, biT, idxT_tm, idxT_lm, idxT_t0, idxT_l0, idxT_t1, idxT_l1, idxT_t2, idxT_l2, idxT_t3, idxT_l3, idxT_t4, idxT_l4, idxT_t5, idxT_l5, ixN, asInt, isNul, done_ret, done_next, seqT, asg, asgs, manyGo, boolsT, allRep, Ev.sizeLine_eq, f11, b11, c1, c2, hi, wipeE, Slot.lock, e1]
def gUn : Tr → Option Tr
  | .tup [l, .int k] => some (.tup [l, .int (0 - k)])
  | _ => none
theorem gUn_map : ∀ r : W, (r.map trS).filterMap gUn = (r.map fun e => (e.1, -e.2)).map trS
  | [] => rfl
  | e :: r => by
    rw [List.map_cons, List.filterMap_cons_some (b := trS (e.1, 0 - e.2)) (by rfl), gUn_map r, Int.zero_sub]
    rfl
theorem law_undone {d : Nat} {m : List Ob} {u : W} (hl : u.length < 5000) : callF gc 64 fs (d + 1) 9 [trW u] m = some (trW (inv u), m) := by
  rw [callS (fn := f9) rfl rfl]
  have e1 : ∀ x0 : Slot, compGo (compF (.tp [.nm 1, .nm 2]) [x0, .none, .none] (kCond gc (callF gc 64 fs d) .nul) (kElt gc (callF gc 64 fs d) e9_0)) (u.reverse.map trS) m [] = some ((inv u).map trS, m) := fun x0 => by
    rw [compGo_map (g := gUn) (fun t ht => ?_) (by simp [Ev.sizeLine_eq]; omega), gUn_map]
    · unfold inv; rw [List.map_reverse]; rfl
    · obtain ⟨⟨l, k⟩, _, rfl⟩ := List.mem_map.mp ht
      simp [Rs.bind_ok, Rs.bind_no, Rs.of_some, q_var, q_mv, q_gl, q_int, q_str, q_bl, q_non, q_tup, q_lst, q_shd, q_disp, q_bin, q_neg, q_cmp, q_chain, q_and, q_or, q_not, q_notF, q_ite, q_idx, q_sl, q_rev, q_call, q_callK, q_bi, q_pop, q_comp, q_nil, q_cons, q_snil, q_scons, t_var, t_gl, t_bl, t_cmp, t_chain, t_idx, t_call, t_callK, t_bi, t_bin, s_set, s_own, s_ownOf, s_many, s_tgt, s_aug, s_put, s_app, s_ext, s_ex, s_ret, s_retN, s_ite, s_for, s_whl, s_brk, s_cont, s_pass, s_nil, s_cons, Ev.kVar, Ev.kMv, Ev.kTup, Ev.kLst, Ev.kShd, Ev.kBin2, Ev.kBin1, Ev.kNeg, Ev.kCmp2, Ev.kCmp1, Ev.kChain3, Ev.kChain2', Ev.kChain2, Ev.kChain1, Ev.kAnd, Ev.kOr, Ev.kNot, Ev.kIte, Ev.kIdxM, Ev.kIdx3, Ev.kIdx2, Ev.kIdx1, Ev.kSl3, Ev.kO, Ev.kSl2, Ev.kSl1, Ev.kRev, Ev.kRes, Ev.kCall, Ev.kCallK2, Ev.kCallK1, Ev.kBi, Ev.kPop2, Ev.kPop, Ev.kComp3, Ev.kCond, Ev.kElt, Ev.kComp2, Ev.kComp, Ev.kEs2, Ev.kEs1, Ev.kSt2, Ev.kSt3, Ev.kSt1, Ev.kDisp, Ev.kSet, Ev.kOwn, Ev.kOwnOf2, Ev.kOwnOf, Ev.kEnv, Ev.kMany, Ev.kTgt, Ev.kAug2, Ev.kAug, Ev.kPut5, Ev.kPut4, Ev.kPut3, Ev.kPut2, Ev.kPut1, Ev.kApp3, Ev.kApp2, Ev.kApp, Ev.kExt3, Ev.kExt2, Ev.kExt, Ev.kEx, Ev.kRet, Ev.kIf, Ev.kFor2, Ev.kFor, Ev.kSeq, kTruth_bl, p_non, d_non, p_bl, d_bl, p_int, d_int, p_str, d_str, p_tup, d_tup, p_lst, d_lst, p_flst, d_flst, p_ob, d_ob, p_bor, d_own, opB_add, opB_sub, opB_mod, opB_fdiv, opC2_lt, opC2_le, opC2_gt, opC2_ge, opC2_eqI, opC2_neI, opC2_eqS, opC2_neS, opC2_eqT, opC2_neT, opC2_eqL, opC2_neL, opC2_isN, opC2_isNI, opC2_inT, opC2_ninT, biT, idxT_tm, idxT_lm, idxT_t0, idxT_l0, idxT_t1, idxT_l1, idxT_t2, idxT_l2, idxT_t3, idxT_l3, idxT_t4, idxT_l4, idxT_t5, idxT_l5, ixN, asInt, isNul, done_ret, done_next, seqT, asg, asgs, manyGo, boolsT, allRep, Ev.sizeLine_eq, compF, e9_0, trS, gUn]
  have hr : (u.map trS).reverse = u.reverse.map trS := by rw [List.map_reverse]
  have hi : items 0 [.tup (u.reverse.map trS)] = some (u.reverse.map trS) := rfl
  rw [trW, trW]
  generalize u.map trS = S at hr ⊢
  generalize u.reverse.map trS = S2 at hr e1 hi
  generalize (inv u).map trS = N at e1 ⊢
  simp [Rs.bind_ok, Rs.bind_no, Rs.of_some, q_var, q_mv, q_gl, q_int, q_str, q_bl, q_non, q_tup, q_lst, q_shd, q_disp, q_bin, q_neg, q_cmp, q_chain, q_and, q_or, q_not, q_notF, q_ite, q_idx, q_sl, q_rev, q_call, q_callK, q_bi, q_pop, q_comp, q_nil, q_cons, q_snil, q_scons, t_var, t_gl, t_bl, t_cmp, t_chain, t_idx, t_call, t_callK, t_bi, t_bin, s_set, s_own, s_ownOf, s_many, s_tgt, s_aug, s_put, s_app, s_ext, s_ex, s_ret, s_retN, s_ite, s_for, s_whl, s_brk, s_cont, s_pass, s_nil, s_cons, Ev.kVar, Ev.kMv, Ev.kTup, Ev.kLst, Ev.kShd, Ev.kBin2, Ev.kBin1, Ev.kNeg, Ev.kCmp2, Ev.kCmp1, Ev.kChain3, Ev.kChain2', Ev.kChain2, Ev.kChain1, Ev.kAnd, Ev.kOr, Ev.kNot, Ev.kIte, Ev.kIdxM, Ev.kIdx3, Ev.kIdx2, Ev.kIdx1, Ev.kSl3, Ev.kO, Ev.kSl2, Ev.kSl1, Ev.kRev, Ev.kRes, Ev.kCall, Ev.kCallK2, Ev.kCallK1, Ev.kBi, Ev.kPop2, Ev.kPop, Ev.kComp3, Ev.kCond, Ev.kElt, Ev.kComp2, Ev.kComp, Ev.kEs2, Ev.kEs1, Ev.kSt2, Ev.kSt3, Ev.kSt1, Ev.kDisp, Ev.kSet, Ev.kOwn, Ev.kOwnOf2, Ev.kOwnOf, Ev.kEnv, Ev.kMany, Ev.kTgt, Ev.kAug2, Ev.kAug, Ev.kPut5, Ev.kPut4, Ev.kPut3, Ev.kPut2, Ev.kPut1, Ev.kApp3, Ev.kApp2, Ev.kApp, Ev.kExt3, Ev.kExt2, Ev.kExt, Ev.kEx, Ev.kRet, Ev.kIf, Ev.kFor2, Ev.kFor, Ev.kSeq, kTruth_bl, p_non, d_non, p_bl, d_bl, p_int, d_int, p_str, d_str, p_tup, d_tup, p_lst, d_lst, p_flst, d_flst, p_ob, d_ob, p_bor, d_own, opB_add, opB_sub, opB_mod, opB_fdiv, opC2_lt, opC2_le, opC2_gt, opC2_ge, opC2_eqI, opC2_neI, opC2_eqS, opC2_neS, opC2_eqT, opC2_neT, opC2_eqL, opC2_neL, opC2_isN, opC2_isNI, opC2_inT, opC2_ninT, biT, idxT_tm, idxT_lm, idxT_t0, idxT_l0, idxT_t1, idxT_l1, idxT_t2, idxT_l2, idxT_t3, idxT_l3, idxT_t4, idxT_l4, idxT_t5, idxT_l5, ixN, asInt, isNul, done_ret, done_next, seqT, asg, asgs, manyGo, boolsT, allRep, Ev.sizeLine_eq, f9, b9, hr, hi, wipeE, Slot.lock, e1]
end G17
/-! The law of forms put together. -/
namespace G17
open Ev PySem L2
/-- the three words -/
theorem drawn3 {d n k : Nat} {m : List Ob} {x1 x3 x4 x5 x6 x7 x8 x9 x10 : Slot} (hP : Pot m n k) (hk : k < 800000) : ∃ (u v w : W) (m' : List Ob), compGo (compF (.nm 2) [.val (.ob n), x1, .none, x3, x4, x5, x6, x7, x8, x9, x10] (kCond gc (callF gc 64 fs (d + 9)) .nul) (kElt gc (callF gc 64 fs (d + 9)) e2_0)) [.int 0, .int 1, .int 2] m [] = some ([trW u, trW v, trW w], m') ∧ (Nice u ∧ u.length < 9) ∧ (Nice v ∧ v.length < 9) ∧ (Nice w ∧ w.length < 9) ∧ ∃ k', k' ≤ k + 60 ∧ Pot m' n k' := by
  have one : ∀ (i : Int) (m : List Ob) (k : Nat), Pot m n k → k < 850000 → ∃ (u : W) (m' : List Ob), compF (.nm 2) [.val (.ob n), x1, .none, x3, x4, x5, x6, x7, x8, x9, x10] (kCond gc (callF gc 64 fs (d + 9)) .nul) (kElt gc (callF gc 64 fs (d + 9)) e2_0) (.int i) m = some (some (trW u), m') ∧ (Nice u ∧ u.length < 9) ∧ ∃ k', k' ≤ k + 20 ∧ Pot m' n k' := by
    intro i m k hP hk
    obtain ⟨j, m1, e1, j0, j1, P1⟩ := take_spec (d := d + 8) (u := 9) hP (by omega) (by omega) (by omega)
    obtain ⟨c, rfl⟩ : ∃ i : Nat, j = i := ⟨j.toNat, by omega⟩
    obtain ⟨w, m2, e2, wl, wn, P2⟩ := ground_word (d := d + 6) (c := c) P1 (by omega) (by omega)
    have e1' : callF gc 64 fs (d + 9) 5 [.ob n, .int 9] m = some (.int c, m1) := e1
    have e2' : callF gc 64 fs (d + 9) 4 [.ob n, .int c] m1 = some (trW w, m2) := e2
    have pw : (trW w).pure = true := rfl
    refine ⟨w, m2, ?_, ⟨wn, by omega⟩, _, ?_, P2⟩
    · generalize trW w = V at e2' pw ⊢
      simp [Rs.bind_ok, Rs.bind_no, Rs.of_some, q_var, q_mv, q_gl, q_int, q_str, q_bl, q_non, q_tup, q_lst, q_shd, q_disp, q_bin, q_neg, q_cmp, q_chain, q_and, q_or, q_not, q_notF, q_ite, q_idx, q_sl, q_rev, q_call, q_callK, q_bi, q_pop, q_comp, q_nil, q_cons, q_snil, q_scons, t_var, t_gl, t_bl, t_cmp, t_chain, t_idx, t_call, t_callK, t_bi, t_bin, s_set, s_own, s_ownOf, s_many, s_tgt, s_aug, s_put, s_app, s_ext, s_ex, s_ret, s_retN, s_ite, s_for, s_whl, s_brk, s_cont, s_pass, s_nil, s_cons, Ev.kVar, Ev.kMv, Ev.kTup, Ev.kLst, Ev.kShd, Ev.kBin2, Ev.kBin1, Ev.kNeg, Ev.kCmp2, Ev.kCmp1, Ev.kChain3, Ev.kChain2', Ev.kChain2, Ev.kChain1, Ev.kAnd, Ev.kOr, Ev.kNot, Ev.kIte, Ev.kIdxM, Ev.kIdx3, Ev.kIdx2, Ev.kIdx1, Ev.kSl3, Ev.kO, Ev.kSl2, Ev.kSl1, Ev.kRev, Ev.kRes, Ev.kCall, Ev.kCallK2, Ev.kCallK1, Ev.kBi, Ev.kPop2, Ev.kPop, Ev.kComp3, Ev.kCond, Ev.kElt, Ev.kComp2, Ev.kComp, Ev.kEs2, Ev.kEs1, Ev.kSt2, Ev.kSt3, Ev.kSt1, Ev.kDisp, Ev.kSet, Ev.kOwn, Ev.kOwnOf2, Ev.kOwnOf, Ev.kEnv, Ev.kMany, Ev.kTgt, Ev.kAug2, Ev.kAug, Ev.kPut5, Ev.kPut4, Ev.kPut3, Ev.kPut2, Ev.kPut1, Ev.kApp3, Ev.kApp2, Ev.kApp, Ev.kExt3, Ev.kExt2, Ev.kExt, Ev.kEx, Ev.kRet, Ev.kIf, Ev.kFor2, Ev.kFor, Ev.kSeq, kTruth_bl, p_non, d_non, p_bl, d_bl, p_int, d_int, p_str, d_str, p_tup, d_tup, p_lst, d_lst, p_flst, d_flst, p_ob, d_ob, p_bor, d_own, opB_add, opB_sub, opB_mod, opB_fdiv, opC2_lt, opC2_le, opC2_gt, opC2_ge, opC2_eqI, opC2_neI, opC2_eqS, opC2_neS, opC2_eqT, opC2_neT, opC2_eqL, opC2_neL, opC2_isN, opC2_isNI, opC2_inT, opC2_ninT, biT, idxT_tm, idxT_lm, idxT_t0, idxT_l0, idxT_t1, idxT_l1, idxT_t2, idxT_l2, idxT_t3, idxT_l3, idxT_t4, idxT_l4, idxT_t5, idxT_l5, ixN, asInt, isNul, done_ret, done_next, seqT, asg, asgs, manyGo, boolsT, allRep, Ev.sizeLine_eq, compF, e2_0, e1', e2', pw]
    · omega
  obtain ⟨u, m1, e1, h1, k1, q1, P1⟩ := one 0 m k hP (by omega)
  obtain ⟨v, m2, e2, h2, k2, q2, P2⟩ := one 1 m1 k1 P1 (by omega)
  obtain ⟨w, m3, e3, h3, k3, q3, P3⟩ := one 2 m2 k2 P2 (by omega)
  refine ⟨u, v, w, m3, ?_, h1, h2, h3, k3, by omega, P3⟩
  simp [compGo, e1, e2, e3, Ev.sizeLine_eq]
end G17
/-! One word and its form, in the law. -/
namespace G17
open Ev PySem L2
theorem reprRun {u : W} {K : Nat} (hb : ∀ e ∈ u, e.2.natAbs ≤ K) (hK : K ≤ 1000000) (hl : u.length ≤ 1000) : ∃ z, reprT (trF (run ([], 0, 0) u)) = some (.str z) := by
  have hB : Bd (0 + K * u.length) (run ([], 0, 0) u) := bd0.run hb
  have hlen := run_len u ([], 0, 0)
  refine reprF hB ?_ (by simp at hlen; omega)
  have : K * u.length ≤ 1000000 * 1000 := Nat.mul_le_mul hK hl
  omega
theorem inv_len (u : W) : (inv u).length = u.length := by unfold inv; simp
theorem inv_bd {u : W} {K : Nat} (hb : ∀ e ∈ u, e.2.natAbs ≤ K) : ∀ e ∈ inv u, e.2.natAbs ≤ K := fun e he => by
  obtain ⟨g, hg, rfl⟩ := List.mem_map.mp (List.mem_reverse.mp he)
  have := hb g hg
  show (-g.2).natAbs ≤ K
  omega
theorem app_bd {u v : W} {K : Nat} (hu : ∀ e ∈ u, e.2.natAbs ≤ K) (hv : ∀ e ∈ v, e.2.natAbs ≤ K) : ∀ e ∈ u ++ v, e.2.natAbs ≤ K := fun e he => by
  rcases List.mem_append.mp he with he | he
  · exact hu e he
  · exact hv e he
theorem run_right (u : W) : run ([], 0, 0) (u ++ inv u) = ([], 0, 0) := by
  rw [run_append]
  exact run_inv trivial
theorem inv_inv (u : W) : inv (inv u) = u := by
  unfold inv
  rw [List.map_reverse, List.reverse_reverse, List.map_map]
  conv => rhs; rw [← List.map_id u]
  apply List.map_congr_left
  intro e _
  show (e.1, - -e.2) = e
  rw [Int.neg_neg]
theorem run_left (u : W) : run ([], 0, 0) (inv u ++ u) = ([], 0, 0) := by
  have h := run_right (inv u)
  rw [inv_inv] at h
  exact h
theorem inv_app (u v : W) : inv (u ++ v) = inv v ++ inv u := by unfold inv; rw [List.map_append, List.reverse_append]
end G17
/-! The loop over words and forms. -/
namespace G17
open Ev PySem L2
theorem mover_tr (p q : Int) : trW (mover p q) = .tup [.tup [.str "y", .int (-q)], .tup [.str "x", .int (-p)]] := rfl
theorem lap18 {d n k : Nat} {m : List Ob} {u : W} {x1 x2 x3 x4 x6 x7 x8 x9 x10 : Slot} (hP : Pot m n k) (hk : k < 800000) (hn : Nice u) (hl : u.length < 9) :
    ∃ (m' : List Ob) (y6 y7 y8 y9 : Slot), exSs gc (callF gc 64 fs (d + 9)) 64 l2_2 ⟨[.val (.ob n), x1, x2, x3, .val (trW u), .val (trF (run ([], 0, 0) u)), x6, x7, x8, x9, x10], m⟩ = .ok .next ⟨[.val (.ob n), x1, x2, x3, .val (trW u), .val (trF (run ([], 0, 0) u)), y6, y7, y8, y9, x10], m'⟩ ∧ ∃ k', k' ≤ k + 2 ∧ Pot m' n k' := by
  obtain ⟨t1, m1, ht1, e1, P1⟩ := of_spec (d := d + 7) (l := [.int 0, .int 1, .int (-2), .int 9]) hP (by omega) (by simp) rfl (by simp)
  obtain ⟨t2, m2, ht2, e2, P2⟩ := of_spec (d := d + 7) (l := [.int 0, .int 3, .int (-1)]) P1 (by omega) (by simp) rfl (by simp)
  obtain ⟨p, rfl, hp⟩ : ∃ i : Int, t1 = .int i ∧ i.natAbs ≤ 9 := by
    simp only [List.mem_cons, List.not_mem_nil, or_false] at ht1
    rcases ht1 with rfl | rfl | rfl | rfl <;> exact ⟨_, rfl, by omega⟩
  obtain ⟨q, rfl, hq⟩ : ∃ i : Int, t2 = .int i ∧ i.natAbs ≤ 9 := by
    simp only [List.mem_cons, List.not_mem_nil, or_false] at ht2
    rcases ht2 with rfl | rfl | rfl <;> exact ⟨_, rfl, by omega⟩
  have ub : ∀ e ∈ u, e.2.natAbs ≤ 9 := fun e he => by have := (hn e he).2; omega
  have mb : ∀ e ∈ mover p q, e.2.natAbs ≤ 9 := fun e he => by
    simp only [mover, List.mem_cons, List.not_mem_nil, or_false] at he
    rcases he with rfl | rfl <;> (dsimp only; omega)
  have mmb := app_bd (app_bd mb ub) (inv_bd mb)
  have ml : (mover p q ++ u ++ inv (mover p q)).length = u.length + 4 := by rw [List.length_append, List.length_append, inv_len]; show 2 + u.length + 2 = _; omega
  have a1 : ∀ m, callF gc 64 fs (d + 9) 8 [trF (run ([], 0, 0) u)] m = some (trF (run ([], 0, 0) (inv u)), m) := fun m => form_undone (d := d + 2) (by omega)
  have a2 : ∀ m, callF gc 64 fs (d + 9) 9 [trW u] m = some (trW (inv u), m) := fun m => law_undone (d := d + 8) (by omega)
  have a3 : ∀ m, callF gc 64 fs (d + 9) 6 [trW (inv u)] m = some (trF (run ([], 0, 0) (inv u)), m) := fun m => by_letters (d := d + 7) (fun e he => by have := inv_bd ub e he; omega) (by rw [inv_len]; omega)
  have a4 : ∀ m, callF gc 64 fs (d + 9) 8 [trF (run ([], 0, 0) (inv u))] m = some (trF (run ([], 0, 0) u), m) := fun m => by
    have h := form_undone (d := d + 2) (m := m) (u := inv u) (by rw [inv_len]; omega)
    rw [inv_inv] at h
    exact h
  have a5 : ∀ m, callF gc 64 fs (d + 9) 7 [trF (run ([], 0, 0) u), trF (run ([], 0, 0) (inv u))] m = some (.tup [.tup [], .int 0, .int 0], m) := fun m => by
    have h := times (d := d + 2) (m := m) (u := u) (v := inv u) (by rw [inv_len]; omega)
    rw [run_right] at h
    exact h
  have a6 : ∀ m, callF gc 64 fs (d + 9) 7 [trF (run ([], 0, 0) (inv u)), trF (run ([], 0, 0) u)] m = some (.tup [.tup [], .int 0, .int 0], m) := fun m => by
    have h := times (d := d + 2) (m := m) (u := inv u) (v := u) (by rw [inv_len]; omega)
    rw [run_left] at h
    exact h
  have a7 : ∀ m, callF gc 64 fs (d + 9) 7 [trF (run ([], 0, 0) u), .tup [.tup [], .int 0, .int 0]] m = some (trF (run ([], 0, 0) u), m) := fun m => by
    have h := times (d := d + 2) (m := m) (u := u) (v := []) (by simp; omega)
    rw [List.append_nil] at h
    exact h
  have a9 : ∀ m, callF gc 64 fs (d + 9) 9 [.tup [.tup [.str "y", .int (-q)], .tup [.str "x", .int (-p)]]] m = some (trW (inv (mover p q)), m) := fun m => law_undone (d := d + 8) (u := mover p q) (by simp [mover])
  have a10 : ∀ m, callF gc 64 fs (d + 9) 6 [trW (mover p q ++ u ++ inv (mover p q))] m = some (trF (run ([], 0, 0) (mover p q ++ u ++ inv (mover p q))), m) := fun m => by_letters (d := d + 7) (fun e he => by have := mmb e he; omega) (by rw [ml]; omega)
  have a11 : ∀ m, callF gc 64 fs (d + 9) 11 [trF (run ([], 0, 0) u), .tup [.int p, .int q]] m = some (trF (run ([], 0, 0) (mover p q ++ u ++ inv (mover p q))), m) := fun m => moved_form (d := d + 2) (by omega)
  have a12 : ∀ m, callF gc 64 fs (d + 9) 11 [trF (run ([], 0, 0) (mover p q ++ u ++ inv (mover p q))), .tup [.int (-p), .int (-q)]] m = some (trF (run ([], 0, 0) u), m) := fun m => by
    have h := moved_form (d := d + 2) (m := m) (u := mover p q ++ u ++ inv (mover p q)) (p := -p) (q := -q) (by rw [ml]; omega)
    have e : run ([], 0, 0) (mover (-p) (-q) ++ (mover p q ++ u ++ inv (mover p q)) ++ inv (mover (-p) (-q))) = run ([], 0, 0) u := by
      rw [run_mover, run_mover]
      dsimp only
      rw [shf_shf, show - -p + -p = 0 by omega, show - -q + -q = 0 by omega, shf_zero]
    rw [e] at h
    exact h
  obtain ⟨z1, r1⟩ := reprRun ub (by omega) (by omega)
  obtain ⟨z2, r2⟩ := reprRun (inv_bd ub) (by omega) (by rw [inv_len]; omega)
  obtain ⟨z3, r3⟩ := reprRun mmb (by omega) (by rw [ml]; omega)
  obtain ⟨z4, r4⟩ := repr_of (n := 4) (t := .lst [.tup [.tup [], .int 0, .int 0], .tup [.tup [], .int 0, .int 0]]) (k := 7715) (by decide +kernel) (by omega) (by omega)
  have pm : opB .add (.tup [.tup [.str "y", .int (-q)], .tup [.str "x", .int (-p)]]) (trW u) = some (trW (mover p q ++ u)) := by
    rw [trW, opB_addT (by rw [Ev.sizeLine_eq, List.length_map]; simp; omega)]
    rfl
  have pm2 : opB .add (trW (mover p q ++ u)) (trW (inv (mover p q))) = some (trW (mover p q ++ u ++ inv (mover p q))) := by
    rw [trW, trW, opB_addT (by rw [Ev.sizeLine_eq, List.length_map, List.length_map, inv_len, List.length_append]; simp [mover]; omega), ← List.map_append]
    rfl
  have rp : opB .mul (.lst [.tup [.tup [], .int 0, .int 0]]) (.int 2) = some (.lst [.tup [.tup [], .int 0, .int 0], .tup [.tup [], .int 0, .int 0]]) := opB_rep (k := 2) (by omega)
  have q1 : (trW u).pure = true := rfl
  have q2 : (trW (inv u)).pure = true := rfl
  have q3 : (trF (run ([], 0, 0) u)).pure = true := rfl
  have q4 : (trF (run ([], 0, 0) (inv u))).pure = true := rfl
  have q5 : (trW (mover p q ++ u ++ inv (mover p q))).pure = true := rfl
  have q6 : (trF (run ([], 0, 0) (mover p q ++ u ++ inv (mover p q)))).pure = true := rfl
  have q7 : (trW (inv (mover p q))).pure = true := rfl
  have q8 : (trW (mover p q ++ u)).pure = true := rfl
  have e1' : callF gc 64 fs (d + 9) 10 [.ob n, .lst [.int 0, .int 1, .int (-2), .int 9]] m = some (.int p, m1) := e1
  have e2' : callF gc 64 fs (d + 9) 10 [.ob n, .lst [.int 0, .int 3, .int (-1)]] m1 = some (.int q, m2) := e2
  refine ⟨m2, .val (trF (run ([], 0, 0) (inv u))), .val (.tup [.int p, .int q]), .val (.tup [.tup [.str "y", .int (-q)], .tup [.str "x", .int (-p)]]), .val (trF (run ([], 0, 0) (mover p q ++ u ++ inv (mover p q)))), ?_, _, Nat.le_refl _, P2⟩
  clear e1 e2
  generalize trF (run ([], 0, 0) u) = F at *
  generalize trF (run ([], 0, 0) (inv u)) = B at *
  generalize trF (run ([], 0, 0) (mover p q ++ u ++ inv (mover p q))) = M at *
  generalize trW (mover p q ++ u ++ inv (mover p q)) = MW at *
  generalize trW (mover p q ++ u) = MU at *
  generalize trW (inv (mover p q)) = MI at *
  generalize trW (inv u) = UI at *
  generalize trW u = U at *
  simp [Rs.bind_ok, Rs.bind_no, Rs.of_some, q_var, q_mv, q_gl, q_int, q_str, q_bl, q_non, q_tup, q_lst, q_shd, q_disp, q_bin, q_neg, q_cmp, q_chain, q_and, q_or, q_not, q_notF, q_ite, q_idx, q_sl, q_rev, q_call, q_callK, q_bi, q_pop, q_comp, q_nil, q_cons, q_snil, q_scons, t_var, t_gl, t_bl, t_cmp, t_chain, t_idx, t_call, t_callK, t_bi, t_bin, s_set, s_own, s_ownOf, s_many, s_tgt, s_aug, s_put, s_app, s_ext, s_ex, s_ret, s_retN, s_ite, s_for, s_whl, s_brk, s_cont, s_pass, s_nil, s_cons, Ev.kVar, Ev.kMv, Ev.kTup, Ev.kLst, Ev.kShd, Ev.kBin2, Ev.kBin1, Ev.kNeg, Ev.kCmp2, Ev.kCmp1, Ev.kChain3, Ev.kChain2', Ev.kChain2, Ev.kChain1, Ev.kAnd, Ev.kOr, Ev.kNot, Ev.kIte, Ev.kIdxM, Ev.kIdx3, Ev.kIdx2, Ev.kIdx1, Ev.kSl3, Ev.kO, Ev.kSl2, Ev.kSl1, Ev.kRev, Ev.kRes, Ev.kCall, Ev.kCallK2, Ev.kCallK1, Ev.kBi, Ev.kPop2, Ev.kPop, Ev.kComp3, Ev.kCond, Ev.kElt, Ev.kComp2, Ev.kComp, Ev.kEs2, Ev.kEs1, Ev.kSt2, Ev.kSt3, Ev.kSt1, Ev.kDisp, Ev.kSet, Ev.kOwn, Ev.kOwnOf2, Ev.kOwnOf, Ev.kEnv, Ev.kMany, Ev.kTgt, Ev.kAug2, Ev.kAug, Ev.kPut5, Ev.kPut4, Ev.kPut3, Ev.kPut2, Ev.kPut1, Ev.kApp3, Ev.kApp2, Ev.kApp, Ev.kExt3, Ev.kExt2, Ev.kExt, Ev.kEx, Ev.kRet, Ev.kIf, Ev.kFor2, Ev.kFor, Ev.kSeq, kTruth_bl, p_non, d_non, p_bl, d_bl, p_int, d_int, p_str, d_str, p_tup, d_tup, p_lst, d_lst, p_flst, d_flst, p_ob, d_ob, p_bor, d_own, opB_add, opB_sub, opB_mod, opB_fdiv, opC2_lt, opC2_le, opC2_gt, opC2_ge, opC2_eqI, opC2_neI, opC2_eqS, opC2_neS, opC2_eqT, opC2_neT, opC2_eqL, opC2_neL, opC2_isN, opC2_isNI, opC2_inT, opC2_ninT, biT, idxT_tm, idxT_lm, idxT_t0, idxT_l0, idxT_t1, idxT_l1, idxT_t2, idxT_l2, idxT_t3, idxT_l3, idxT_t4, idxT_l4, idxT_t5, idxT_l5, ixN, asInt, isNul, done_ret, done_next, seqT, asg, asgs, manyGo, boolsT, allRep, Ev.sizeLine_eq, l2_2, a1, a2, a3, a4, a5, a6, a7, a9, a10, a11, a12, r1, r2, r3, r4, pm, pm2, rp, q1, q2, q3, q4, q5, q6, q7, q8, e1', e2', d_pure]
end G17
/-! The law k18 at every script. -/
namespace G17
open Ev PySem L2
theorem forms3 {d : Nat} {m : List Ob} {u v w : W} {x0 x1 x2 x3 x5 x6 x7 x8 x9 x10 : Slot} (hu : Nice u ∧ u.length < 9) (hv : Nice v ∧ v.length < 9) (hw : Nice w ∧ w.length < 9) :
    compGo (compF (.nm 4) [x0, x1, x2, x3, .none, x5, x6, x7, x8, x9, x10] (kCond gc (callF gc 64 fs (d + 9)) .nul) (kElt gc (callF gc 64 fs (d + 9)) e2_1)) [trW u, trW v, trW w] m [] = some ([trF (run ([], 0, 0) u), trF (run ([], 0, 0) v), trF (run ([], 0, 0) w)], m) := by
  have one : ∀ u : W, Nice u ∧ u.length < 9 → compF (.nm 4) [x0, x1, x2, x3, .none, x5, x6, x7, x8, x9, x10] (kCond gc (callF gc 64 fs (d + 9)) .nul) (kElt gc (callF gc 64 fs (d + 9)) e2_1) (trW u) m = some (some (trF (run ([], 0, 0) u)), m) := by
    intro u ⟨hn, hl⟩
    have e1 : callF gc 64 fs (d + 9) 6 [trW u] m = some (trF (run ([], 0, 0) u), m) := by_letters (d := d + 7) (fun e he => by have := (hn e he).2; omega) (by omega)
    have pw : (trW u).pure = true := rfl
    have pf : (trF (run ([], 0, 0) u)).pure = true := rfl
    generalize trW u = V at e1 pw ⊢
    generalize trF (run ([], 0, 0) u) = F at e1 pf ⊢
    simp [Rs.bind_ok, Rs.bind_no, Rs.of_some, q_var, q_mv, q_gl, q_int, q_str, q_bl, q_non, q_tup, q_lst, q_shd, q_disp, q_bin, q_neg, q_cmp, q_chain, q_and, q_or, q_not, q_notF, q_ite, q_idx, q_sl, q_rev, q_call, q_callK, q_bi, q_pop, q_comp, q_nil, q_cons, q_snil, q_scons, t_var, t_gl, t_bl, t_cmp, t_chain, t_idx, t_call, t_callK, t_bi, t_bin, s_set, s_own, s_ownOf, s_many, s_tgt, s_aug, s_put, s_app, s_ext, s_ex, s_ret, s_retN, s_ite, s_for, s_whl, s_brk, s_cont, s_pass, s_nil, s_cons, Ev.kVar, Ev.kMv, Ev.kTup, Ev.kLst, Ev.kShd, Ev.kBin2, Ev.kBin1, Ev.kNeg, Ev.kCmp2, Ev.kCmp1, Ev.kChain3, Ev.kChain2', Ev.kChain2, Ev.kChain1, Ev.kAnd, Ev.kOr, Ev.kNot, Ev.kIte, Ev.kIdxM, Ev.kIdx3, Ev.kIdx2, Ev.kIdx1, Ev.kSl3, Ev.kO, Ev.kSl2, Ev.kSl1, Ev.kRev, Ev.kRes, Ev.kCall, Ev.kCallK2, Ev.kCallK1, Ev.kBi, Ev.kPop2, Ev.kPop, Ev.kComp3, Ev.kCond, Ev.kElt, Ev.kComp2, Ev.kComp, Ev.kEs2, Ev.kEs1, Ev.kSt2, Ev.kSt3, Ev.kSt1, Ev.kDisp, Ev.kSet, Ev.kOwn, Ev.kOwnOf2, Ev.kOwnOf, Ev.kEnv, Ev.kMany, Ev.kTgt, Ev.kAug2, Ev.kAug, Ev.kPut5, Ev.kPut4, Ev.kPut3, Ev.kPut2, Ev.kPut1, Ev.kApp3, Ev.kApp2, Ev.kApp, Ev.kExt3, Ev.kExt2, Ev.kExt, Ev.kEx, Ev.kRet, Ev.kIf, Ev.kFor2, Ev.kFor, Ev.kSeq, kTruth_bl, p_non, d_non, p_bl, d_bl, p_int, d_int, p_str, d_str, p_tup, d_tup, p_lst, d_lst, p_flst, d_flst, p_ob, d_ob, p_bor, d_own, opB_add, opB_sub, opB_mod, opB_fdiv, opC2_lt, opC2_le, opC2_gt, opC2_ge, opC2_eqI, opC2_neI, opC2_eqS, opC2_neS, opC2_eqT, opC2_neT, opC2_eqL, opC2_neL, opC2_isN, opC2_isNI, opC2_inT, opC2_ninT, biT, idxT_tm, idxT_lm, idxT_t0, idxT_l0, idxT_t1, idxT_l1, idxT_t2, idxT_l2, idxT_t3, idxT_l3, idxT_t4, idxT_l4, idxT_t5, idxT_l5, ixN, asInt, isNul, done_ret, done_next, seqT, asg, asgs, manyGo, boolsT, allRep, Ev.sizeLine_eq, compF, e2_1, e1, pw, pf]
  simp [compGo, one u hu, one v hv, one w hw, Ev.sizeLine_eq]
theorem walk3 {d n k : Nat} {m : List Ob} {x1 x2 x3 x4 x5 x6 x7 x8 x9 x10 : Slot} {u v w : W} (hP : Pot m n k) (hk : k < 700000) (hu : Nice u ∧ u.length < 9) (hv : Nice v ∧ v.length < 9) (hw : Nice w ∧ w.length < 9) :
    ∃ (m' : List Ob) (y4 y5 y6 y7 y8 y9 : Slot), forGo (.tp [.nm 4, .nm 5]) (exSs gc (callF gc 64 fs (d + 9)) 64 l2_2) (zipT [trW u, trW v, trW w] [trF (run ([], 0, 0) u), trF (run ([], 0, 0) v), trF (run ([], 0, 0) w)]) ⟨[.val (.ob n), x1, x2, x3, x4, x5, x6, x7, x8, x9, x10], m⟩ = .ok .next ⟨[.val (.ob n), x1, x2, x3, y4, y5, y6, y7, y8, y9, x10], m'⟩ := by
  obtain ⟨m1, a6, a7, a8, a9, e1, k1, h1, P1⟩ := lap18 (d := d) (x1 := x1) (x2 := x2) (x3 := x3) (x4 := x4) (x6 := x6) (x7 := x7) (x8 := x8) (x9 := x9) (x10 := x10) hP (by omega) hu.1 hu.2
  obtain ⟨m2, b6, b7, b8, b9, e2, k2, h2, P2⟩ := lap18 (d := d) (x1 := x1) (x2 := x2) (x3 := x3) (x4 := x4) (x6 := a6) (x7 := a7) (x8 := a8) (x9 := a9) (x10 := x10) P1 (by omega) hv.1 hv.2
  obtain ⟨m3, c6, c7, c8, c9, e3, k3, h3, P3⟩ := lap18 (d := d) (x1 := x1) (x2 := x2) (x3 := x3) (x4 := x4) (x6 := b6) (x7 := b7) (x8 := b8) (x9 := b9) (x10 := x10) P2 (by omega) hw.1 hw.2
  refine ⟨m3, .val (trW w), .val (trF (run ([], 0, 0) w)), c6, c7, c8, c9, ?_⟩
  have pu : (trW u).pure = true := rfl
  have pv : (trW v).pure = true := rfl
  have pw : (trW w).pure = true := rfl
  have qu : (trF (run ([], 0, 0) u)).pure = true := rfl
  have qv : (trF (run ([], 0, 0) v)).pure = true := rfl
  have qw : (trF (run ([], 0, 0) w)).pure = true := rfl
  generalize exSs gc (callF gc 64 fs (d + 9)) 64 l2_2 = f at e1 e2 e3 ⊢
  generalize trF (run ([], 0, 0) u) = FU at *
  generalize trF (run ([], 0, 0) v) = FV at *
  generalize trF (run ([], 0, 0) w) = FW at *
  generalize trW u = U at *
  generalize trW v = V at *
  generalize trW w = W at *
  simp [zipT, forGo, asg, asgs, pu, pv, pw, qu, qv, qw, e1, e2, e3]
theorem right18 {d n k : Nat} {m : List Ob} (hP : Pot m n k) (hk : k < 1000) : ∃ (m' : List Ob), callF gc 64 fs (d + 10) 2 [.ob n] m = some (.bl true, m') := by
  rw [callS (fn := f2) rfl rfl]
  obtain ⟨u, v, w, m1, e1, hu, hv, hw, k1, h1, P1⟩ := drawn3 (d := d) (x1 := .none) (x3 := .none) (x4 := .none) (x5 := .none) (x6 := .none) (x7 := .none) (x8 := .none) (x9 := .none) (x10 := .none) hP (by omega)
  have e2 := forms3 (d := d) (m := m1) (x0 := .val (.ob n)) (x1 := .val (.lst [trW u, trW v, trW w])) (x2 := .none) (x3 := .none) (x5 := .none) (x6 := .none) (x7 := .none) (x8 := .none) (x9 := .none) (x10 := .none) hu hv hw
  obtain ⟨m2, y4, y5, y6, y7, y8, y9, e3⟩ := walk3 (d := d) (x1 := .val (.lst [trW u, trW v, trW w])) (x2 := .none) (x3 := .val (.lst [trF (run ([], 0, 0) u), trF (run ([], 0, 0) v), trF (run ([], 0, 0) w)])) (x4 := .none) (x5 := .none) (x6 := .none) (x7 := .none) (x8 := .none) (x9 := .none) (x10 := .none) P1 (by omega) hu hv hw
  have hi : items 1 [.int 3] = some [.int 0, .int 1, .int 2] := by
    simp only [items]
    exact if_pos (in62_of (by omega))
  have bd : ∀ {u : W}, Nice u → ∀ e ∈ u, e.2.natAbs ≤ 9 := fun hn e he => by have := (hn e he).2; omega
  have bu := bd hu.1
  have bv := bd hv.1
  have bw := bd hw.1
  have luv : (u ++ v).length = u.length + v.length := List.length_append
  have a1 : ∀ m, callF gc 64 fs (d + 9) 7 [trF (run ([], 0, 0) u), trF (run ([], 0, 0) v)] m = some (trF (run ([], 0, 0) (u ++ v)), m) := fun m => times (d := d + 2) (by omega)
  have a2 : ∀ m, callF gc 64 fs (d + 9) 6 [trW (u ++ v)] m = some (trF (run ([], 0, 0) (u ++ v)), m) := fun m => by_letters (d := d + 7) (fun e he => by have := app_bd bu bv e he; omega) (by omega)
  have a3 : ∀ m, callF gc 64 fs (d + 9) 7 [trF (run ([], 0, 0) (u ++ v)), trF (run ([], 0, 0) w)] m = some (trF (run ([], 0, 0) (u ++ v ++ w)), m) := fun m => times (d := d + 2) (by omega)
  have a4 : ∀ m, callF gc 64 fs (d + 9) 7 [trF (run ([], 0, 0) v), trF (run ([], 0, 0) w)] m = some (trF (run ([], 0, 0) (v ++ w)), m) := fun m => times (d := d + 2) (by omega)
  have a5 : ∀ m, callF gc 64 fs (d + 9) 7 [trF (run ([], 0, 0) u), trF (run ([], 0, 0) (v ++ w))] m = some (trF (run ([], 0, 0) (u ++ v ++ w)), m) := fun m => by
    have h := times (d := d + 2) (m := m) (u := u) (v := v ++ w) (by rw [List.length_append]; omega)
    rw [← List.append_assoc] at h
    exact h
  have a6 : ∀ m, callF gc 64 fs (d + 9) 8 [trF (run ([], 0, 0) (u ++ v))] m = some (trF (run ([], 0, 0) (inv (u ++ v))), m) := fun m => form_undone (d := d + 2) (by omega)
  have a7 : ∀ m, callF gc 64 fs (d + 9) 8 [trF (run ([], 0, 0) u)] m = some (trF (run ([], 0, 0) (inv u)), m) := fun m => form_undone (d := d + 2) (by omega)
  have a8 : ∀ m, callF gc 64 fs (d + 9) 8 [trF (run ([], 0, 0) v)] m = some (trF (run ([], 0, 0) (inv v)), m) := fun m => form_undone (d := d + 2) (by omega)
  have a9 : ∀ m, callF gc 64 fs (d + 9) 7 [trF (run ([], 0, 0) (inv v)), trF (run ([], 0, 0) (inv u))] m = some (trF (run ([], 0, 0) (inv (u ++ v))), m) := fun m => by
    have h := times (d := d + 2) (m := m) (u := inv v) (v := inv u) (by rw [inv_len, inv_len]; omega)
    rw [← inv_app] at h
    exact h
  have hF : Red (run ([], 0, 0) (u ++ v)).1 := run_red (f := ([], 0, 0)) trivial
  have hFl := run_len (u ++ v) ([], 0, 0)
  have hbl := back_len (f := run ([], 0, 0) (u ++ v))
  have hfl := freed_len (w := backW (run ([], 0, 0) (u ++ v))) (v := [])
  have hnz := freed_nz (w := backW (run ([], 0, 0) (u ++ v))) (v := []) (by simp)
  have hrb := run_freed_back hF
  have a10 : ∀ m, callF gc 64 fs (d + 9) 13 [trF (run ([], 0, 0) (u ++ v))] m = some (trW (freed (backW (run ([], 0, 0) (u ++ v)))).reverse, m) := fun m => form_word (d := d + 2) hF (by simp at hFl; omega)
  have a11 : ∀ m, callF gc 64 fs (d + 9) 12 [trW (freed (backW (run ([], 0, 0) (u ++ v)))).reverse] m = some (trF (run ([], 0, 0) (u ++ v)), m) := fun m => by
    have h := form (d := d + 3) (m := m) (w := (freed (backW (run ([], 0, 0) (u ++ v)))).reverse) (fun e he => hnz e (List.mem_reverse.mp he)) (by rw [List.length_reverse]; unfold freed; simp at hFl hfl; omega)
    rw [hrb] at h
    exact h
  obtain ⟨z1, r1⟩ := reprRun (app_bd bu bv) (by omega) (by omega)
  obtain ⟨z2, r2⟩ := reprRun (app_bd (app_bd bu bv) bw) (by omega) (by rw [List.length_append]; omega)
  obtain ⟨z3, r3⟩ := reprRun (inv_bd (app_bd bu bv)) (by omega) (by rw [inv_len]; omega)
  have pm : opB .add (trW u) (trW v) = some (trW (u ++ v)) := by
    rw [trW, trW, opB_addT (by rw [Ev.sizeLine_eq, List.length_map, List.length_map]; omega), ← List.map_append]
    rfl
  have pu : (trW u).pure = true := rfl
  have pv : (trW v).pure = true := rfl
  have pw : (trW w).pure = true := rfl
  have puv : (trW (u ++ v)).pure = true := rfl
  have pb : (trW (freed (backW (run ([], 0, 0) (u ++ v)))).reverse).pure = true := rfl
  have qu : (trF (run ([], 0, 0) u)).pure = true := rfl
  have qv : (trF (run ([], 0, 0) v)).pure = true := rfl
  have qw : (trF (run ([], 0, 0) w)).pure = true := rfl
  have quv : (trF (run ([], 0, 0) (u ++ v))).pure = true := rfl
  have qvw : (trF (run ([], 0, 0) (v ++ w))).pure = true := rfl
  have qi : (trF (run ([], 0, 0) (inv u))).pure = true := rfl
  have qj : (trF (run ([], 0, 0) (inv v))).pure = true := rfl
  have qk : (trF (run ([], 0, 0) (inv (u ++ v)))).pure = true := rfl
  have q3 : (trF (run ([], 0, 0) (u ++ v ++ w))).pure = true := rfl
  have hz : items 4 [.lst [trW u, trW v, trW w], .lst [trF (run ([], 0, 0) u), trF (run ([], 0, 0) v), trF (run ([], 0, 0) w)]] = some (zipT [trW u, trW v, trW w] [trF (run ([], 0, 0) u), trF (run ([], 0, 0) v), trF (run ([], 0, 0) w)]) := rfl
  have h0 : items 0 [.lst [trW u, trW v, trW w]] = some [trW u, trW v, trW w] := rfl
  refine ⟨m2, ?_⟩
  clear hF hFl hbl hfl hnz hrb bd bu bv bw luv hu hv hw P1
  generalize zipT [trW u, trW v, trW w] [trF (run ([], 0, 0) u), trF (run ([], 0, 0) v), trF (run ([], 0, 0) w)] = Z at hz e3
  generalize trF (run ([], 0, 0) (u ++ v ++ w)) = F3 at *
  generalize trF (run ([], 0, 0) (u ++ v)) = FUV at *
  generalize trF (run ([], 0, 0) (v ++ w)) = FVW at *
  generalize trF (run ([], 0, 0) (inv (u ++ v))) = FK at *
  generalize trF (run ([], 0, 0) (inv u)) = FI at *
  generalize trF (run ([], 0, 0) (inv v)) = FJ at *
  generalize trF (run ([], 0, 0) u) = FU at *
  generalize trF (run ([], 0, 0) v) = FV at *
  generalize trF (run ([], 0, 0) w) = FW at *
  generalize trW (u ++ v) = UV at *
  generalize trW (freed (backW (run ([], 0, 0) (u ++ v)))).reverse = B at *
  generalize trW u = U at *
  generalize trW v = V at *
  generalize trW w = W at *
  simp [Rs.bind_ok, Rs.bind_no, Rs.of_some, q_var, q_mv, q_gl, q_int, q_str, q_bl, q_non, q_tup, q_lst, q_shd, q_disp, q_bin, q_neg, q_cmp, q_chain, q_and, q_or, q_not, q_notF, q_ite, q_idx, q_sl, q_rev, q_call, q_callK, q_bi, q_pop, q_comp, q_nil, q_cons, q_snil, q_scons, t_var, t_gl, t_bl, t_cmp, t_chain, t_idx, t_call, t_callK, t_bi, t_bin, s_set, s_own, s_ownOf, s_many, s_tgt, s_aug, s_put, s_app, s_ext, s_ex, s_ret, s_retN, s_ite, s_for, s_whl, s_brk, s_cont, s_pass, s_nil, s_cons, Ev.kVar, Ev.kMv, Ev.kTup, Ev.kLst, Ev.kShd, Ev.kBin2, Ev.kBin1, Ev.kNeg, Ev.kCmp2, Ev.kCmp1, Ev.kChain3, Ev.kChain2', Ev.kChain2, Ev.kChain1, Ev.kAnd, Ev.kOr, Ev.kNot, Ev.kIte, Ev.kIdxM, Ev.kIdx3, Ev.kIdx2, Ev.kIdx1, Ev.kSl3, Ev.kO, Ev.kSl2, Ev.kSl1, Ev.kRev, Ev.kRes, Ev.kCall, Ev.kCallK2, Ev.kCallK1, Ev.kBi, Ev.kPop2, Ev.kPop, Ev.kComp3, Ev.kCond, Ev.kElt, Ev.kComp2, Ev.kComp, Ev.kEs2, Ev.kEs1, Ev.kSt2, Ev.kSt3, Ev.kSt1, Ev.kDisp, Ev.kSet, Ev.kOwn, Ev.kOwnOf2, Ev.kOwnOf, Ev.kEnv, Ev.kMany, Ev.kTgt, Ev.kAug2, Ev.kAug, Ev.kPut5, Ev.kPut4, Ev.kPut3, Ev.kPut2, Ev.kPut1, Ev.kApp3, Ev.kApp2, Ev.kApp, Ev.kExt3, Ev.kExt2, Ev.kExt, Ev.kEx, Ev.kRet, Ev.kIf, Ev.kFor2, Ev.kFor, Ev.kSeq, kTruth_bl, p_non, d_non, p_bl, d_bl, p_int, d_int, p_str, d_str, p_tup, d_tup, p_lst, d_lst, p_flst, d_flst, p_ob, d_ob, p_bor, d_own, opB_add, opB_sub, opB_mod, opB_fdiv, opC2_lt, opC2_le, opC2_gt, opC2_ge, opC2_eqI, opC2_neI, opC2_eqS, opC2_neS, opC2_eqT, opC2_neT, opC2_eqL, opC2_neL, opC2_isN, opC2_isNI, opC2_inT, opC2_ninT, biT, idxT_tm, idxT_lm, idxT_t0, idxT_l0, idxT_t1, idxT_l1, idxT_t2, idxT_l2, idxT_t3, idxT_l3, idxT_t4, idxT_l4, idxT_t5, idxT_l5, ixN, asInt, isNul, done_ret, done_next, seqT, asg, asgs, manyGo, boolsT, allRep, Ev.sizeLine_eq, f2, b2, hi, wipeE, Slot.lock, e1, e2, e3, h0, hz, a1, a2, a3, a4, a5, a6, a7, a8, a9, a10, a11, r1, r2, r3, pm, pu, pv, pw, puv, pb, qu, qv, qw, quv, qvw, qi, qj, qk, q3, d_pure]
theorem law_all (ns : List Int) : ∃ m', callF gc 64 fs 40 0 [.flst (ns.map .int)] [] = some (.bl true, m') := by
  rw [show (40 : Nat) = 39 + 1 from rfl, callS (fn := f0) rfl rfl]
  obtain ⟨c, hc, hi, e1⟩ := cells (d := 38) (m := []) (ns := ns)
  obtain ⟨m', e2⟩ := comp_mem (f := compF (.nm 1) [.val (.flst (ns.map .int)), .none] (kCond gc (callF gc 64 fs 39) .nul) (kElt gc (callF gc 64 fs 39) e0_0)) (P := fun x => ∃ i : Nat, x = .int i ∧ i ≤ 2 ∧ (i < ns.length ∨ (i = 0 ∧ ns = []))) (fun x m hx => by
    obtain ⟨i, rfl, h2, h3⟩ := hx
    obtain ⟨m1, p1, P1⟩ := pot (d := 38) (m := m) h2 h3
    obtain ⟨m2, p2⟩ := right18 (d := 29) P1 (by omega)
    refine ⟨m2, ?_⟩
    have p1' : callF gc 64 fs 39 3 [.flst (ns.map .int), .int i] m = some (.ob m.length, m1) := p1
    have p2' : callF gc 64 fs 39 2 [.ob m.length] m1 = some (.bl true, m2) := p2
    generalize callF gc 64 fs 39 = cf at p1' p2' ⊢
    generalize ns.map Tr.int = L at p1' ⊢
    simp [Rs.bind_ok, Rs.bind_no, Rs.of_some, q_var, q_mv, q_gl, q_int, q_str, q_bl, q_non, q_tup, q_lst, q_shd, q_disp, q_bin, q_neg, q_cmp, q_chain, q_and, q_or, q_not, q_notF, q_ite, q_idx, q_sl, q_rev, q_call, q_callK, q_bi, q_pop, q_comp, q_nil, q_cons, q_snil, q_scons, t_var, t_gl, t_bl, t_cmp, t_chain, t_idx, t_call, t_callK, t_bi, t_bin, s_set, s_own, s_ownOf, s_many, s_tgt, s_aug, s_put, s_app, s_ext, s_ex, s_ret, s_retN, s_ite, s_for, s_whl, s_brk, s_cont, s_pass, s_nil, s_cons, Ev.kVar, Ev.kMv, Ev.kTup, Ev.kLst, Ev.kShd, Ev.kBin2, Ev.kBin1, Ev.kNeg, Ev.kCmp2, Ev.kCmp1, Ev.kChain3, Ev.kChain2', Ev.kChain2, Ev.kChain1, Ev.kAnd, Ev.kOr, Ev.kNot, Ev.kIte, Ev.kIdxM, Ev.kIdx3, Ev.kIdx2, Ev.kIdx1, Ev.kSl3, Ev.kO, Ev.kSl2, Ev.kSl1, Ev.kRev, Ev.kRes, Ev.kCall, Ev.kCallK2, Ev.kCallK1, Ev.kBi, Ev.kPop2, Ev.kPop, Ev.kComp3, Ev.kCond, Ev.kElt, Ev.kComp2, Ev.kComp, Ev.kEs2, Ev.kEs1, Ev.kSt2, Ev.kSt3, Ev.kSt1, Ev.kDisp, Ev.kSet, Ev.kOwn, Ev.kOwnOf2, Ev.kOwnOf, Ev.kEnv, Ev.kMany, Ev.kTgt, Ev.kAug2, Ev.kAug, Ev.kPut5, Ev.kPut4, Ev.kPut3, Ev.kPut2, Ev.kPut1, Ev.kApp3, Ev.kApp2, Ev.kApp, Ev.kExt3, Ev.kExt2, Ev.kExt, Ev.kEx, Ev.kRet, Ev.kIf, Ev.kFor2, Ev.kFor, Ev.kSeq, kTruth_bl, p_non, d_non, p_bl, d_bl, p_int, d_int, p_str, d_str, p_tup, d_tup, p_lst, d_lst, p_flst, d_flst, p_ob, d_ob, p_bor, d_own, opB_add, opB_sub, opB_mod, opB_fdiv, opC2_lt, opC2_le, opC2_gt, opC2_ge, opC2_eqI, opC2_neI, opC2_eqS, opC2_neS, opC2_eqT, opC2_neT, opC2_eqL, opC2_neL, opC2_isN, opC2_isNI, opC2_inT, opC2_ninT, idxT_tm, idxT_lm, idxT_t0, idxT_l0, idxT_t1, idxT_l1, idxT_t2, idxT_l2, idxT_t3, idxT_l3, idxT_t4, idxT_l4, idxT_t5, idxT_l5, ixN, asInt, isNul, done_ret, done_next, seqT, asg, asgs, manyGo, boolsT, allRep, Ev.sizeLine_eq, compF, e0_0, p1', p2']) (rgT 0 c) [] [] (fun x hx => by
      rw [rg0] at hx
      obtain ⟨j, hj, rfl⟩ := List.mem_map.mp hx
      obtain ⟨i, hi2, rfl⟩ := List.mem_map.mp hj
      have := List.mem_range.mp hi2
      exact ⟨i, rfl, by omega, hi i this⟩) (by rw [rg0]; simp; omega)
  refine ⟨m', ?_⟩
  have e1' : callF gc 64 fs 39 1 [.flst (ns.map .int), .int 3] [] = some (.lst (rgT 0 c), []) := e1
  have hit : items 0 [.lst (rgT 0 c)] = some (rgT 0 c) := rfl
  have hall := allT (rgT 0 c).length
  rw [List.nil_append] at e2
  generalize rgT 0 (c : Int) = R at e1' e2 hit hall
  generalize callF gc 64 fs 39 = cf at e1' e2 ⊢
  generalize ns.map Tr.int = L at e1' e2 ⊢
  generalize List.replicate R.length (Tr.bl true) = BB at e2 hall
  simp [Rs.bind_ok, Rs.bind_no, Rs.of_some, q_var, q_mv, q_gl, q_int, q_str, q_bl, q_non, q_tup, q_lst, q_shd, q_disp, q_bin, q_neg, q_cmp, q_chain, q_and, q_or, q_not, q_notF, q_ite, q_idx, q_sl, q_rev, q_call, q_callK, q_bi, q_pop, q_comp, q_nil, q_cons, q_snil, q_scons, t_var, t_gl, t_bl, t_cmp, t_chain, t_idx, t_call, t_callK, t_bi, t_bin, s_set, s_own, s_ownOf, s_many, s_tgt, s_aug, s_put, s_app, s_ext, s_ex, s_ret, s_retN, s_ite, s_for, s_whl, s_brk, s_cont, s_pass, s_nil, s_cons, Ev.kVar, Ev.kMv, Ev.kTup, Ev.kLst, Ev.kShd, Ev.kBin2, Ev.kBin1, Ev.kNeg, Ev.kCmp2, Ev.kCmp1, Ev.kChain3, Ev.kChain2', Ev.kChain2, Ev.kChain1, Ev.kAnd, Ev.kOr, Ev.kNot, Ev.kIte, Ev.kIdxM, Ev.kIdx3, Ev.kIdx2, Ev.kIdx1, Ev.kSl3, Ev.kO, Ev.kSl2, Ev.kSl1, Ev.kRev, Ev.kRes, Ev.kCall, Ev.kCallK2, Ev.kCallK1, Ev.kBi, Ev.kPop2, Ev.kPop, Ev.kComp3, Ev.kCond, Ev.kElt, Ev.kComp2, Ev.kComp, Ev.kEs2, Ev.kEs1, Ev.kSt2, Ev.kSt3, Ev.kSt1, Ev.kDisp, Ev.kSet, Ev.kOwn, Ev.kOwnOf2, Ev.kOwnOf, Ev.kEnv, Ev.kMany, Ev.kTgt, Ev.kAug2, Ev.kAug, Ev.kPut5, Ev.kPut4, Ev.kPut3, Ev.kPut2, Ev.kPut1, Ev.kApp3, Ev.kApp2, Ev.kApp, Ev.kExt3, Ev.kExt2, Ev.kExt, Ev.kEx, Ev.kRet, Ev.kIf, Ev.kFor2, Ev.kFor, Ev.kSeq, kTruth_bl, p_non, d_non, p_bl, d_bl, p_int, d_int, p_str, d_str, p_tup, d_tup, p_lst, d_lst, p_flst, d_flst, p_ob, d_ob, p_bor, d_own, opB_add, opB_sub, opB_mod, opB_fdiv, opC2_lt, opC2_le, opC2_gt, opC2_ge, opC2_eqI, opC2_neI, opC2_eqS, opC2_neS, opC2_eqT, opC2_neT, opC2_eqL, opC2_neL, opC2_isN, opC2_isNI, opC2_inT, opC2_ninT, idxT_tm, idxT_lm, idxT_t0, idxT_l0, idxT_t1, idxT_l1, idxT_t2, idxT_l2, idxT_t3, idxT_l3, idxT_t4, idxT_l4, idxT_t5, idxT_l5, ixN, asInt, isNul, done_ret, done_next, seqT, asg, asgs, manyGo, boolsT, allRep, Ev.sizeLine_eq, f0, b0, e1', hit, wipeE, Slot.lock, e2, hall]
end G17
namespace G17
open Ev PySem
def wf : Nat := 64
theorem law_holds (ns : List Int) (_ : ns.length ≤ 63) : ∃ m', callF gc wf fs 40 0 [.flst (ns.map .int)] [] = some (.bl true, m') := law_all ns
end G17
open PySem PySem.W PyProof.Rows
set_option maxRecDepth 100000 in
set_option maxHeartbeats 0 in
theorem PySem.Challenge.cw_emptywords_k18_whole_forms_put_together_holds : PySem.Challenge.rw_emptywords_k18_whole_forms_put_together.Holds := by
  w_on; o_law; k_head; (case hw => w_witness2)
  k_fill
  refine Ev.walk_G (l := PySem.Challenge.rw_emptywords_k18_whole_forms_put_together) (n := 63) (d0 := 40) (wf := G17.wf) (li := 0) (x := "script") (D := G17.D) (gc := G17.gc) (fs := G17.fs) (is := G17.is) (I := G17.i0) rfl (by decide) rfl ⟨rfl, by decide, by decide⟩ (fun w h Y => PySem.W.kIn_of Y) rfl rfl G17.all rfl rfl rfl rfl ?F0 G17.law_holds
  case F0 =>
    intro w mg h KX G
    refine Ev.dyn_mk KX G ?DF ?DC ?DB
    case DF =>
      refine' .cons (Ev.fk (x := "law") (st := G17.s0) rfl rfl ?fa0 ?fl0 ?fc0 ?fk0) ?_
      (case fa0 => k_is); (case fl0 => k_is); (case fc0 => k_is); (case fk0 => k_is)
      refine' .cons (Ev.fk (x := "_law_cells") (st := G17.s1) rfl rfl ?fa1 ?fl1 ?fc1 ?fk1) ?_
      (case fa1 => k_is); (case fl1 => k_is); (case fc1 => k_is); (case fk1 => k_is)
      refine' .cons (Ev.fk (x := "_law_right") (st := G17.s2) rfl rfl ?fa2 ?fl2 ?fc2 ?fk2) ?_
      (case fa2 => k_is); (case fl2 => k_is); (case fc2 => k_is); (case fk2 => k_is)
      refine' .cons (Ev.fk (x := "_law_pot") (st := G17.s3) rfl rfl ?fa3 ?fl3 ?fc3 ?fk3) ?_
      (case fa3 => k_is); (case fl3 => k_is); (case fc3 => k_is); (case fk3 => k_is)
      refine' .cons (Ev.fk (x := "_law_ground_word") (st := G17.s4) rfl rfl ?fa4 ?fl4 ?fc4 ?fk4) ?_
      (case fa4 => k_is); (case fl4 => k_is); (case fc4 => k_is); (case fk4 => k_is)
      refine' .cons (Ev.fk (x := "_law_take") (st := G17.s5) rfl rfl ?fa5 ?fl5 ?fc5 ?fk5) ?_
      (case fa5 => k_is); (case fl5 => k_is); (case fc5 => k_is); (case fk5 => k_is)
      refine' .cons (Ev.fk (x := "_law_form_by_letters") (st := G17.s6) rfl rfl ?fa6 ?fl6 ?fc6 ?fk6) ?_
      (case fa6 => k_is); (case fl6 => k_is); (case fc6 => k_is); (case fk6 => k_is)
      refine' .cons (Ev.fk (x := "times") (st := G17.s7) rfl rfl ?fa7 ?fl7 ?fc7 ?fk7) ?_
      (case fa7 => k_is); (case fl7 => k_is); (case fc7 => k_is); (case fk7 => k_is)
      refine' .cons (Ev.fk (x := "form_undone") (st := G17.s8) rfl rfl ?fa8 ?fl8 ?fc8 ?fk8) ?_
      (case fa8 => k_is); (case fl8 => k_is); (case fc8 => k_is); (case fk8 => k_is)
      refine' .cons (Ev.fk (x := "_law_undone") (st := G17.s9) rfl rfl ?fa9 ?fl9 ?fc9 ?fk9) ?_
      (case fa9 => k_is); (case fl9 => k_is); (case fc9 => k_is); (case fk9 => k_is)
      refine' .cons (Ev.fk (x := "_law_of") (st := G17.s10) rfl rfl ?fa10 ?fl10 ?fc10 ?fk10) ?_
      (case fa10 => k_is); (case fl10 => k_is); (case fc10 => k_is); (case fk10 => k_is)
      refine' .cons (Ev.fk (x := "moved_form") (st := G17.s11) rfl rfl ?fa11 ?fl11 ?fc11 ?fk11) ?_
      (case fa11 => k_is); (case fl11 => k_is); (case fc11 => k_is); (case fk11 => k_is)
      refine' .cons (Ev.fk (x := "form") (st := G17.s12) rfl rfl ?fa12 ?fl12 ?fc12 ?fk12) ?_
      (case fa12 => k_is); (case fl12 => k_is); (case fc12 => k_is); (case fk12 => k_is)
      refine' .cons (Ev.fk (x := "form_word") (st := G17.s13) rfl rfl ?fa13 ?fl13 ?fc13 ?fk13) ?_
      (case fa13 => k_is); (case fl13 => k_is); (case fc13 => k_is); (case fk13 => k_is)
      refine' .cons (Ev.fk (x := "_law_singles_of") (st := G17.s14) rfl rfl ?fa14 ?fl14 ?fc14 ?fk14) ?_
      (case fa14 => k_is); (case fl14 => k_is); (case fc14 => k_is); (case fk14 => k_is)
      refine' .cons (Ev.fk (x := "check_form") (st := G17.s15) rfl rfl ?fa15 ?fl15 ?fc15 ?fk15) ?_
      (case fa15 => k_is); (case fl15 => k_is); (case fc15 => k_is); (case fk15 => k_is)
      refine' .cons (Ev.fk (x := "times_of") (st := G17.s16) rfl rfl ?fa16 ?fl16 ?fc16 ?fk16) ?_
      (case fa16 => k_is); (case fl16 => k_is); (case fc16 => k_is); (case fk16 => k_is)
      refine' .cons (Ev.fk (x := "undone_form") (st := G17.s17) rfl rfl ?fa17 ?fl17 ?fc17 ?fk17) ?_
      (case fa17 => k_is); (case fl17 => k_is); (case fc17 => k_is); (case fk17 => k_is)
      refine' .cons (Ev.fk (x := "check_pair") (st := G17.s18) rfl rfl ?fa18 ?fl18 ?fc18 ?fk18) ?_
      (case fa18 => k_is); (case fl18 => k_is); (case fc18 => k_is); (case fk18 => k_is)
      refine' .cons (Ev.fk (x := "check_ground") (st := G17.s19) rfl rfl ?fa19 ?fl19 ?fc19 ?fk19) ?_
      (case fa19 => k_is); (case fl19 => k_is); (case fc19 => k_is); (case fk19 => k_is)
      refine' .cons (Ev.fk (x := "form_of") (st := G17.s20) rfl rfl ?fa20 ?fl20 ?fc20 ?fk20) ?_
      (case fa20 => k_is); (case fl20 => k_is); (case fc20 => k_is); (case fk20 => k_is)
      refine' .cons (Ev.fk (x := "form_word_of") (st := G17.s21) rfl rfl ?fa21 ?fl21 ?fc21 ?fk21) ?_
      (case fa21 => k_is); (case fl21 => k_is); (case fc21 => k_is); (case fk21 => k_is)
      refine' .cons (Ev.fk (x := "is_form") (st := G17.s22) rfl rfl ?fa22 ?fl22 ?fc22 ?fk22) ?_
      (case fa22 => k_is); (case fl22 => k_is); (case fc22 => k_is); (case fk22 => k_is)
      refine' .cons (Ev.fk (x := "put_together") (st := G17.s23) rfl rfl ?fa23 ?fl23 ?fc23 ?fk23) ?_
      (case fa23 => k_is); (case fl23 => k_is); (case fc23 => k_is); (case fk23 => k_is)
      refine' .cons (Ev.fk (x := "is_pair") (st := G17.s24) rfl rfl ?fa24 ?fl24 ?fc24 ?fk24) ?_
      (case fa24 => k_is); (case fl24 => k_is); (case fc24 => k_is); (case fk24 => k_is)
      refine' .cons (Ev.fk (x := "is_word") (st := G17.s25) rfl rfl ?fa25 ?fl25 ?fc25 ?fk25) ?_
      (case fa25 => k_is); (case fl25 => k_is); (case fc25 => k_is); (case fk25 => k_is)
      refine' .cons (Ev.fk (x := "moved_of") (st := G17.s26) rfl rfl ?fa26 ?fl26 ?fc26 ?fk26) ?_
      (case fa26 => k_is); (case fl26 => k_is); (case fc26 => k_is); (case fk26 => k_is)
      refine' .cons (Ev.fk (x := "freed_of") (st := G17.s27) rfl rfl ?fa27 ?fl27 ?fc27 ?fk27) ?_
      (case fa27 => k_is); (case fl27 => k_is); (case fc27 => k_is); (case fk27 => k_is)
      refine' .cons (Ev.fk (x := "is_whole") (st := G17.s28) rfl rfl ?fa28 ?fl28 ?fc28 ?fk28) ?_
      (case fa28 => k_is); (case fl28 => k_is); (case fc28 => k_is); (case fk28 => k_is)
      refine' .cons (Ev.fk (x := "is_tuple") (st := G17.s29) rfl rfl ?fa29 ?fl29 ?fc29 ?fk29) ?_
      (case fa29 => k_is); (case fl29 => k_is); (case fc29 => k_is); (case fk29 => k_is)
      refine' .cons (Ev.fk (x := "is_moved") (st := G17.s30) rfl rfl ?fa30 ?fl30 ?fc30 ?fk30) ?_
      (case fa30 => k_is); (case fl30 => k_is); (case fc30 => k_is); (case fk30 => k_is)
      refine' .cons (Ev.fk (x := "are_wholes") (st := G17.s31) rfl rfl ?fa31 ?fl31 ?fc31 ?fk31) ?_
      (case fa31 => k_is); (case fl31 => k_is); (case fc31 => k_is); (case fk31 => k_is)
      refine' .cons (Ev.fk (x := "is_syllable") (st := G17.s32) rfl rfl ?fa32 ?fl32 ?fc32 ?fk32) ?_
      (case fa32 => k_is); (case fl32 => k_is); (case fc32 => k_is); (case fk32 => k_is)
      refine' .cons (Ev.fk (x := "is_power") (st := G17.s33) rfl rfl ?fa33 ?fl33 ?fc33 ?fk33) ?_
      (case fa33 => k_is); (case fl33 => k_is); (case fc33 => k_is); (case fk33 => k_is)
      refine' .cons (Ev.fk (x := "is_letter") (st := G17.s34) rfl rfl ?fa34 ?fl34 ?fc34 ?fk34) ?_
      (case fa34 => k_is); (case fl34 => k_is); (case fc34 => k_is); (case fk34 => k_is)
      exact .nil
    case DC =>
      refine' .cons (x := "GROUND") ?ca0 ?co0 ?_
      (case ca0 => k_is); (case co0 => kernel_rfl)
      refine' .cons (x := "X") ?ca1 ?co1 ?_
      (case ca1 => k_is); (case co1 => kernel_rfl)
      refine' .cons (x := "Y") ?ca2 ?co2 ?_
      (case ca2 => k_is); (case co2 => kernel_rfl)
      refine' .cons (x := "TRIPLE") ?ca3 ?co3 ?_
      (case ca3 => k_is); (case co3 => kernel_rfl)
      refine' .cons (x := "PAIR") ?ca4 ?co4 ?_
      (case ca4 => k_is); (case co4 => kernel_rfl)
      refine' .cons (x := "T") ?ca5 ?co5 ?_
      (case ca5 => k_is); (case co5 => kernel_rfl)
      refine' .cons (x := "SIGNS") ?ca6 ?co6 ?_
      (case ca6 => k_is); (case co6 => kernel_rfl)
      refine' .cons (x := "K") ?ca7 ?co7 ?_
      (case ca7 => k_is); (case co7 => kernel_rfl)
      exact .nil
    case DB =>
      refine' .cons (x := "all") ?ba0 ?_
      (case ba0 => k_is)
      refine' .cons (x := "list") ?ba1 ?_
      (case ba1 => k_is)
      refine' .cons (x := "range") ?ba2 ?_
      (case ba2 => k_is)
      refine' .cons (x := "max") ?ba3 ?_
      (case ba3 => k_is)
      refine' .cons (x := "min") ?ba4 ?_
      (case ba4 => k_is)
      refine' .cons (x := "len") ?ba5 ?_
      (case ba5 => k_is)
      refine' .cons (x := "repr") ?ba6 ?_
      (case ba6 => k_is)
      refine' .cons (x := "zip") ?ba7 ?_
      (case ba7 => k_is)
      refine' .cons (x := "int") ?ba8 ?_
      (case ba8 => k_is)
      refine' .cons (x := "sum") ?ba9 ?_
      (case ba9 => k_is)
      refine' .cons (x := "abs") ?ba10 ?_
      (case ba10 => k_is)
      refine' .cons (x := "tuple") ?ba11 ?_
      (case ba11 => k_is)
      refine' .cons (x := "enumerate") ?ba12 ?_
      (case ba12 => k_is)
      refine' .cons (x := "isinstance") ?ba13 ?_
      (case ba13 => k_is)
      refine' .cons (x := "bool") ?ba14 ?_
      (case ba14 => k_is)
      refine' .cons (x := "str") ?ba15 ?_
      (case ba15 => k_is)
      exact .nil
