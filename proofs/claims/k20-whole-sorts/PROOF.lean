import PyProof.Rows.All
import Wide.All
import OpenK.AllK
import Wide.FinOn
import HandS.ForMost
import HandS.Exc
import HandS.ExcOwn
import HandS.TryMany
import HandS.WordsExc
import HandS.IsInst
import HandS.TupAny
import HandS.Style
import KE.DataEq
import KE.DataCmp
import KE.DataIsa
import HandS.Conv
import HandS.WrittenGet
import HandS.Ends
import PySem.Challenge.RW_modulewright_k20_whole_sorts
set_option Elab.async false
set_option linter.all false
set_option maxRecDepth 100000
namespace DV
open PySem PySem.Spec PyProof.Rows L2

/-- Python data, without the heap -/
abbrev D := PyData

/-- a dict that stands at a, its pairs -/
def DictIs (K : PySem.W.Frag) (H : Hp) (a : Addr) (kvs : List (V × V)) : Prop :=
  ∃ ks : List (Key × V), Rd H a (.dK ks) ∧ kvs = ks.map fun kv => (kV kv.1, kv.2)

mutual
/-- the value v is the data d in the heap H -/
inductive Rp (K : PySem.W.Frag) (H : Hp) : V → D → Prop
  | non : Rp K H .non .none
  | bl (b : Bool) : Rp K H (.bl b) (.bool b)
  | int (i : Int) : Rp K H (.int i) (.int i)
  | str (x : Str) : Rp K H (.str x) (.str x)
  | lst {a : Addr} {xs : List V} {ds : List D} : SqL K H a xs → RpAll K H xs ds → Rp K H (.ref a) (.list ds)
  | tup {a : Addr} {xs : List V} {ds : List D} : SqT K H a xs → RpAll K H xs ds → Rp K H (.ref a) (.tuple ds)
  | dct {a : Addr} {kvs : List (V × V)} {ds : List (D × D)} : DictIs K H a kvs → RpKv K H kvs ds → Rp K H (.ref a) (.dict ds)
inductive RpAll (K : PySem.W.Frag) (H : Hp) : List V → List D → Prop
  | nil : RpAll K H [] []
  | cons {v : V} {vs : List V} {d : D} {ds : List D} : Rp K H v d → RpAll K H vs ds → RpAll K H (v :: vs) (d :: ds)
inductive RpKv (K : PySem.W.Frag) (H : Hp) : List (V × V) → List (D × D) → Prop
  | nil : RpKv K H [] []
  | cons {k v : V} {vs : List (V × V)} {dk d : D} {ds : List (D × D)} : Rp K H k dk → Rp K H v d → RpKv K H vs ds → RpKv K H ((k, v) :: vs) ((dk, d) :: ds)
end

theorem Same.sqT {K : PySem.W.Frag} {H H' : Hp} {a : Addr} {xs : List V} (e : Same H H') (h : SqT K H a xs) : SqT K H' a xs := by
  rcases h with (h | ⟨o, h⟩) | h
  · exact .inl (.inl (e _ _ h))
  · exact .inl (.inr ⟨o, e _ _ h⟩)
  · exact .inr h
theorem Same.dict {K : PySem.W.Frag} {H H' : Hp} {a : Addr} {kvs : List (V × V)} (e : Same H H') (h : DictIs K H a kvs) : DictIs K H' a kvs := by
  obtain ⟨ks, h | ⟨o, h⟩, q⟩ := h
  · exact ⟨ks, .inl (e _ _ h), q⟩
  · exact ⟨ks, .inr ⟨o, e _ _ h⟩, q⟩
mutual
theorem Rp.mono {K : PySem.W.Frag} {H H' : Hp} (e : Same H H') : ∀ {v : V} {d : D}, Rp K H v d → Rp K H' v d
  | _, _, .non => .non
  | _, _, .bl b => .bl b
  | _, _, .int i => .int i
  | _, _, .str x => .str x
  | _, _, .lst h a => .lst (L2.Same.seq e h) (RpAll.mono e a)
  | _, _, .tup h a => .tup (Same.sqT e h) (RpAll.mono e a)
  | _, _, .dct h a => .dct (Same.dict e h) (RpKv.mono e a)
theorem RpAll.mono {K : PySem.W.Frag} {H H' : Hp} (e : Same H H') : ∀ {v : List V} {d : List D}, RpAll K H v d → RpAll K H' v d
  | _, _, .nil => .nil
  | _, _, .cons h a => .cons (Rp.mono e h) (RpAll.mono e a)
theorem RpKv.mono {K : PySem.W.Frag} {H H' : Hp} (e : Same H H') : ∀ {v : List (V × V)} {d : List (D × D)}, RpKv K H v d → RpKv K H' v d
  | _, _, .nil => .nil
  | _, _, .cons g h a => .cons (Rp.mono e g) (Rp.mono e h) (RpKv.mono e a)
end
theorem RpAll.length {K : PySem.W.Frag} {H : Hp} : ∀ {v : List V} {d : List D}, RpAll K H v d → v.length = d.length
  | _, _, .nil => rfl
  | _, _, .cons _ a => congrArg (· + 1) (RpAll.length a)
theorem RpAll.append {K : PySem.W.Frag} {H : Hp} : ∀ {v w : List V} {d e : List D}, RpAll K H v d → RpAll K H w e → RpAll K H (v ++ w) (d ++ e)
  | _, _, _, _, .nil, b => b
  | _, _, _, _, .cons h a, b => .cons h (RpAll.append a b)
theorem RpAll.drop {K : PySem.W.Frag} {H : Hp} : ∀ (n : Nat) {v : List V} {d : List D}, RpAll K H v d → RpAll K H (v.drop n) (d.drop n)
  | 0, _, _, h => h
  | _ + 1, _, _, .nil => .nil
  | n + 1, _, _, .cons _ a => RpAll.drop n a
theorem RpAll.take {K : PySem.W.Frag} {H : Hp} : ∀ (n : Nat) {v : List V} {d : List D}, RpAll K H v d → RpAll K H (v.take n) (d.take n)
  | 0, _, _, _ => .nil
  | _ + 1, _, _, .nil => .nil
  | n + 1, _, _, .cons h a => .cons h (RpAll.take n a)
theorem RpAll.reverse {K : PySem.W.Frag} {H : Hp} : ∀ {v : List V} {d : List D}, RpAll K H v d → RpAll K H v.reverse d.reverse
  | _, _, .nil => .nil
  | _, _, .cons h a => by
    rw [List.reverse_cons, List.reverse_cons]
    exact (RpAll.reverse a).append (.cons h .nil)
theorem RpAll.get {K : PySem.W.Frag} {H : Hp} : ∀ {v : List V} {d : List D} {i : Nat} {e : D}, RpAll K H v d → d[i]? = some e → ∃ u, v[i]? = some u ∧ Rp K H u e
  | _, _, _, _, .nil, h => by simp at h
  | _, _, 0, _, .cons h a, e => by simp at e; subst e; exact ⟨_, rfl, h⟩
  | _, _, i + 1, _, .cons h a, e => RpAll.get (i := i) a (by simpa using e)
theorem RpAll.getV {K : PySem.W.Frag} {H : Hp} : ∀ {v : List V} {d : List D} {i : Nat} {u : V}, RpAll K H v d → v[i]? = some u → ∃ e, d[i]? = some e ∧ Rp K H u e
  | _, _, _, _, .nil, h => by simp at h
  | _, _, 0, _, .cons h a, e => by simp at e; subst e; exact ⟨_, rfl, h⟩
  | _, _, i + 1, _, .cons h a, e => RpAll.getV (i := i) a (by simpa using e)
theorem RpAll.set {K : PySem.W.Frag} {H : Hp} {u : V} {e : D} (r : Rp K H u e) : ∀ {v : List V} {d : List D} (i : Nat), RpAll K H v d → RpAll K H (v.set i u) (d.set i e)
  | _, _, _, .nil => .nil
  | _, _, 0, .cons _ a => .cons r a
  | _, _, i + 1, .cons h a => .cons h (RpAll.set r i a)
theorem RpAll.dropLast {K : PySem.W.Frag} {H : Hp} {v : List V} {d : List D} (h : RpAll K H v d) : RpAll K H v.dropLast d.dropLast := by
  rw [List.dropLast_eq_take, List.dropLast_eq_take, h.length]
  exact h.take _
theorem RpAll.rep {K : PySem.W.Frag} {H : Hp} {v : List V} {d : List D} (h : RpAll K H v d) : ∀ k : Nat, RpAll K H (List.replicate k v).flatten (List.replicate k d).flatten
  | 0 => .nil
  | k + 1 => by
    rw [List.replicate_succ, List.replicate_succ, List.flatten_cons, List.flatten_cons]
    exact h.append (RpAll.rep h k)

/-! ### scalars -/
def scalar : D → Bool
  | .none => true
  | .bool _ => true
  | .int _ => true
  | .str _ => true
  | _ => false
theorem Rp.scalar {K : PySem.W.Frag} {H H' : Hp} {v : V} {d : D} (h : Rp K H v d) (s : scalar d = true) : Rp K H' v d := by
  cases h with
  | non => exact .non
  | bl b => exact .bl b
  | int i => exact .int i
  | str x => exact .str x
  | lst _ _ => cases s
  | tup _ _ => cases s
  | dct _ _ => cases s

/-! ### reading -/
section
variable {X : Cx} {pins : List (Addr × Obj)} {σ : L2.St} {H : Hp} {s : Shared}
mutual
theorem Rp.reads (I : Inv X pins σ H s) : ∀ (d : D) (v : V) (u : Value), d.plain = true → Rp X.K H v d → RelV v u → ∃ as, Reads s.heap u d as
  | .none, _, _, _, h, r => by
    cases h
    cases r
    exact ⟨_, Reads.none⟩
  | .bool b, _, _, _, h, r => by
    cases h
    cases r
    exact ⟨_, Reads.bool b⟩
  | .int i, _, _, _, h, r => by
    cases h
    obtain ⟨t, rfl⟩ := r
    exact ⟨_, Reads.int i t⟩
  | .str x, _, _, _, h, r => by
    cases h
    obtain ⟨t, rfl⟩ := r
    exact ⟨_, Reads.str x t⟩
  | .list ds, _, _, p, h, r => by
    cases h with
    | lst hs ha =>
      cases r
      obtain ⟨its, rv, ⟨o, n, ho, hc, _, hd⟩, _⟩ := I.list hs
      obtain ⟨as, hr⟩ := RpAll.reads I ds _ its (by simpa [PyData.plain] using p) ha rv
      exact ⟨_, Reads.list ho hc hd hr⟩
  | .tuple ds, _, _, p, h, r => by
    cases h with
    | tup hs ha =>
      cases r
      obtain ⟨its, rv, ⟨o, ho, hc, n, hd⟩, _⟩ := I.tuple hs
      obtain ⟨as, hr⟩ := RpAll.reads I ds _ its (by simpa [PyData.plain] using p) ha rv
      exact ⟨_, Reads.tuple ho hc hd hr⟩
  | .dict _, _, _, p, _, _ => by simp [PyData.plain] at p
theorem RpAll.reads (I : Inv X pins σ H s) : ∀ (ds : List D) (vs : List V) (us : List Value), PyData.plainAll ds = true → RpAll X.K H vs ds → Vals vs us → ∃ as, ReadsAll s.heap us ds as
  | [], _, _, _, h, r => by
    cases h
    cases r
    exact ⟨_, ReadsAll.nil⟩
  | d :: ds, _, _, p, h, r => by
    have p' : d.plain = true ∧ PyData.plainAll ds = true := by simpa [PyData.plainAll] using p
    cases h with
    | cons h1 h2 =>
      cases r with
      | cons r1 r2 =>
        obtain ⟨as, q1⟩ := Rp.reads I d _ _ p'.1 h1 r1
        obtain ⟨bs, q2⟩ := RpAll.reads I ds _ _ p'.2 h2 r2
        exact ⟨_, ReadsAll.cons q1 q2⟩
end
end
end DV

namespace DV
open PySem PySem.Spec PyProof.Rows L2

/-- an exception: its class's number, what it bears -/
structure XV where
  cls : Nat
  args : List D
/-- the result of an expression -/
inductive Rs (α : Type) where
  | ok (a : α)
  | ex (x : XV)
  | st
def Rs.bind {α β : Type} : Rs α → (α → Rs β) → Rs β
  | .ok a, f => f a
  | .ex x, _ => .ex x
  | .st, _ => .st
instance : Monad Rs where
  pure := .ok
  bind := Rs.bind
@[simp] theorem ok_bind {α β : Type} (a : α) (f : α → Rs β) : (Rs.ok a >>= f) = f a := rfl
@[simp] theorem ex_bind {α β : Type} (x : XV) (f : α → Rs β) : (Rs.ex x >>= f) = .ex x := rfl
@[simp] theorem st_bind {α β : Type} (f : α → Rs β) : (Rs.st >>= f) = .st := rfl
@[simp] theorem pure_rs {α : Type} (a : α) : (pure a : Rs α) = .ok a := rfl
def Rs.toO {α : Type} : Rs α → Option α
  | .ok a => some a
  | _ => none
@[simp] theorem toO_ok {α : Type} (a : α) : (Rs.ok a).toO = some a := rfl
def ofO {α : Type} : Option α → Rs α
  | some a => .ok a
  | none => .st
@[simp] theorem ofO_some {α : Type} (a : α) : ofO (some a) = .ok a := rfl
@[simp] theorem ofO_none {α : Type} : (ofO none : Rs α) = .st := rfl
/-- a value: dat: it stays as it is; new: a list or dict that nothing else holds; own: what a slot holds alone -/
inductive EV where
  | dat (d : D)
  | new (d : D)
  | own (d : D)
def EV.d : EV → D
  | .dat d => d
  | .new d => d
  | .own d => d
@[simp] theorem d_dat (d : D) : (EV.dat d).d = d := rfl
@[simp] theorem d_new (d : D) : (EV.new d).d = d := rfl
@[simp] theorem d_own (d : D) : (EV.own d).d = d := rfl
/-- what may be kept elsewhere -/
def EV.fix : EV → Option D
  | .dat d => some d
  | .new d => some d
  | .own _ => none
@[simp] theorem fix_dat (d : D) : (EV.dat d).fix = some d := rfl
@[simp] theorem fix_new (d : D) : (EV.new d).fix = some d := rfl
inductive SV where
  | dat (d : D)
  | own (d : D)
def SV.d : SV → D
  | .dat d => d
  | .own d => d
abbrev Slots := List (Option SV)

/-! ### operations on data -/
inductive Bop where
  | add | sub | mul | fdiv | mod | pow
  deriving DecidableEq
inductive Cop where
  | eq | ne | lt | le | gt | ge | isn | isnn | isin | notin
  deriving DecidableEq
def fits (n : Nat) : Bool := decide (n ≤ 16777216)
def addD : D → D → Option EV
  | .int i, .int j => some (.dat (.int (i + j)))
  | .str x, .str y => if fits (x.length + y.length) then some (.dat (.str (x ++ y))) else none
  | .list xs, .list ys => if fits (xs.length + ys.length) then some (.new (.list (xs ++ ys))) else none
  | .tuple xs, .tuple ys => if fits (xs.length + ys.length) then some (.dat (.tuple (xs ++ ys))) else none
  | _, _ => none
def subD : D → D → Option EV
  | .int i, .int j => some (.dat (.int (i - j)))
  | _, _ => none
def mulD : D → D → Option EV
  | .int i, .int j => if i.natAbs.log2 + j.natAbs.log2 < 134000000 then some (.dat (.int (i * j))) else none
  | _, _ => none
/-- a new list times an int -/
def repD : EV → D → Option EV
  | .new (.list xs), .int k => if decide (-(2 ^ 63) ≤ k) && decide (k < 2 ^ 63) && fits (xs.length * k.toNat) then some (.new (.list (List.replicate k.toNat xs).flatten)) else none
  | _, _ => none
def fdivD : D → D → Option EV
  | .int i, .int j => if decide (0 < j) && decide (j.natAbs.log2 < 9000) then some (.dat (.int (i / j))) else none
  | _, _ => none
def modD : D → D → Option EV
  | .int i, .int j => if 0 < j then some (.dat (.int (i % j))) else none
  | _, _ => none
def powD : D → D → Option EV
  | .int i, .int j => if decide (0 ≤ j) && decide (j ≤ 1000000) && decide (i.natAbs < 2 ^ 64) then some (.dat (.int (i ^ j.toNat))) else none
  | _, _ => none
def binD : Bop → D → D → Option EV
  | .add => addD
  | .sub => subD
  | .mul => mulD
  | .fdiv => fdivD
  | .mod => modD
  | .pow => powD
/-- name op= value: ints -/
def augD : Bop → D → D → Option EV
  | .add, .int i, .int j => some (.dat (.int (i + j)))
  | .sub, .int i, .int j => some (.dat (.int (i - j)))
  | _, _, _ => none
def negD : D → Option EV
  | .int i => some (.dat (.int (-i)))
  | _ => none
def eqv : D → D → Bool := PyData.eqv
def isNone : D → Bool
  | .none => true
  | _ => false
/-- data without dicts, not too deep -/
def okD (d : D) : Bool := d.plain && decide (d.depth ≤ 64)
def eqD (d e : D) : Option Bool := if okD d && e.plain then some (eqv d e) else none
def ltD (x y : D) : Option Bool := if okD x && y.plain && PySem.W.alike x y && !isNone x then some (PySem.W.dataLt x y) else none
def gtD (x y : D) : Option Bool := if okD x && y.plain && PySem.W.alike x y && !isNone x then some (PySem.W.dataLt y x) else none
/-- y stands in x as a part -/
def subStr (x y : Str) : Bool := !(Builtin.Str.occurrences y x 0 y.length 1).isEmpty
def lookD (k : D) : List (D × D) → Option D
  | [] => none
  | (k', v) :: r => if eqv k' k then some v else lookD k r
def inD (x : D) : D → Option Bool
  | .list ys => if okD x && PyData.plainAll ys then some (ys.any fun y => eqv y x) else none
  | .tuple ys => if okD x && PyData.plainAll ys then some (ys.any fun y => eqv y x) else none
  | .str y => match x with
    | .str z => some (subStr z y)
    | _ => none
  | .dict kvs => match x with
    | .str _ => some ((lookD x kvs).isSome)
    | .int _ => some ((lookD x kvs).isSome)
    | _ => none
  | _ => none
def notO : Option Bool → Option Bool
  | some b => some (!b)
  | none => none
def cmpD : Cop → D → D → Option Bool
  | .eq, x, y => eqD x y
  | .ne, x, y => notO (eqD x y)
  | .lt, x, y => ltD x y
  | .gt, x, y => gtD x y
  | .le, x, y => notO (gtD x y)
  | .ge, x, y => notO (ltD x y)
  | .isn, x, y => if isNone y then some (isNone x) else none
  | .isnn, x, y => if isNone y then some (!isNone x) else none
  | .isin, x, y => inD x y
  | .notin, x, y => notO (inD x y)
def truthD : D → Option Bool
  | .none => some false
  | .bool b => some b
  | .int i => some (i != 0)
  | .str x => if fits x.length then some (decide (0 < x.length)) else none
  | .list xs => some (!xs.isEmpty)
  | .tuple xs => some (!xs.isEmpty)
  | .dict kvs => some (!kvs.isEmpty)
def oneS (c : Nat) : Str := ⟨#[c]⟩
def idxD : D → D → Option EV
  | .list xs, .int i => match atI xs i with
    | some v => some (.dat v)
    | none => none
  | .tuple xs, .int i => match atI xs i with
    | some v => some (.dat v)
    | none => none
  | .str x, .int i => match atI x.cps.toList i with
    | some c => if fits x.length then some (.dat (.str (oneS c))) else none
    | none => none
  | .dict kvs, .str x => match lookD (.str x) kvs with
    | some v => some (.dat v)
    | none => none
  | .dict kvs, .int x => match lookD (.int x) kvs with
    | some v => some (.dat v)
    | none => none
  | _, _ => none
def cutL {α : Type} (xs : List α) (lo hi : Option Int) : List α := (xs.drop (HT.sIx xs.length 0 lo)).take (HT.sIx xs.length xs.length hi - HT.sIx xs.length 0 lo)
def cutX (x : Str) (lo hi : Option Int) : Str := ⟨(cutL x.cps.toList lo hi).toArray⟩
def sliceD : D → Option Int → Option Int → Option EV
  | .list xs, lo, hi => some (.new (.list (cutL xs lo hi)))
  | .tuple xs, lo, hi => some (.dat (.tuple (cutL xs lo hi)))
  | .str x, lo, hi => if fits x.length then some (.dat (.str (cutX x lo hi))) else none
  | _, _, _ => none
def revD : D → Option EV
  | .list xs => some (.new (.list xs.reverse))
  | _ => none
/-- kinds for isinstance -/
inductive Ty where
  | int | bool | str | list | tuple
  deriving DecidableEq
def isiD : Ty → D → Bool
  | .int, .int _ => true
  | .int, .bool _ => true
  | .bool, .bool _ => true
  | .str, .str _ => true
  | .list, .list _ => true
  | .tuple, .tuple _ => true
  | _, _ => false

/-! ### built-ins -/
inductive Bf where
  | len | abs | all | any | list | tuple | int | sum
  deriving DecidableEq
def lenD : D → Option EV
  | .list xs => some (.dat (.int xs.length))
  | .tuple xs => some (.dat (.int xs.length))
  | .str x => if fits x.length then some (.dat (.int x.length)) else none
  | .dict kvs => some (.dat (.int kvs.length))
  | _ => none
def boolsOf : List D → Option (List Bool)
  | [] => some []
  | .bool b :: r => (boolsOf r).map (b :: ·)
  | _ :: _ => none
def intsOf : List D → Option (List Int)
  | [] => some []
  | .int b :: r => (intsOf r).map (b :: ·)
  | _ :: _ => none
def bfD : Bf → List D → Option EV
  | .len, [d] => lenD d
  | .abs, [.int i] => some (.dat (.int (if i < 0 then -i else i)))
  | .all, [.list xs] => match boolsOf xs with
    | some bs => some (.dat (.bool (bs.all id)))
    | none => none
  | .any, [.list xs] => match boolsOf xs with
    | some bs => some (.dat (.bool (bs.any id)))
    | none => none
  | .list, [.list xs] => some (.new (.list xs))
  | .list, [.tuple xs] => some (.new (.list xs))
  | .tuple, [.list xs] => some (.dat (.tuple xs))
  | .tuple, [.tuple xs] => some (.dat (.tuple xs))
  | .int, [.int i] => some (.dat (.int i))
  | .int, [.bool b] => some (.dat (.int (if b then 1 else 0)))
  | .sum, [.list xs] => match intsOf xs with
    | some bs => some (.dat (.int bs.sum))
    | none => none
  | _, _ => none
def rangeL (a b : Int) : List D := (List.range (b - a).toNat).map fun i => .int (a + (i : Nat))

/-! ### targets -/
mutual
inductive Tg where
  | var (i : Nat)
  | tup (ts : Tgs)
inductive Tgs where
  | nil
  | cons (t : Tg) (ts : Tgs)
end
mutual
def Tg.put : Tg → D → Slots → Option Slots
  | .var i, d, s => some (s.set i (some (.dat d)))
  | .tup ts, d, s => match d with
    | .tuple ds => ts.puts ds s
    | _ => none
def Tgs.puts : Tgs → List D → Slots → Option Slots
  | .nil, ds, s => match ds with
    | [] => some s
    | _ :: _ => none
  | .cons t ts, ds, s => match ds with
    | [] => none
    | d :: ds => do
      let s1 ← t.put d s
      ts.puts ds s1
end

mutual
def Tg.vars : Tg → List Nat
  | .var i => [i]
  | .tup ts => ts.vars
def Tgs.vars : Tgs → List Nat
  | .nil => []
  | .cons t ts => t.vars ++ ts.vars
end

/-! ### trees -/
mutual
inductive Ex where
  | var (i : Nat)
  | lit (d : D)
  | glob (x : Str) (d : D)
  | tup (es : Exs)
  | lst (es : Exs)
  | bin (op : Bop) (a b : Ex)
  | rep (a b : Ex)
  | neg (a : Ex)
  | cmp (op : Cop) (a b : Ex)
  | chain (op op' : Cop) (a b c : Ex)
  | and (es : Exs)
  | or (es : Exs)
  | not (a : Ex)
  | ife (c a b : Ex)
  | idx (a b : Ex)
  | slice (a : Ex) (lo hi : Ox)
  | rev (a : Ex)
  | call (f : Nat) (es : Exs)
  | blt (b : Bf) (es : Exs)
  | isi (a : Ex) (t : Ty)
  | comp (elt : Ex) (t : Tg) (it : It) (ifs : Exs) (own : List (Str × Nat))
  | mapix (x : Str) (kvs : List (Str × D)) (e : Ex)
  | lrange (it : It)
inductive Exs where
  | nil
  | cons (e : Ex) (es : Exs)
inductive Ox where
  | none
  | some (e : Ex)
inductive It where
  | ex (e : Ex)
  | range1 (a : Ex)
  | range2 (a b : Ex)
end

/-- what is walked -/
def itD : D → Option (List D)
  | .list xs => some xs
  | .tuple xs => some xs
  | .str x => some (x.cps.toList.map fun c => .str (oneS c))
  | _ => none
/-- a written dict of the module -/
def mapD (kvs : List (Str × D)) : D → Option EV
  | .str z => match kvs.lookup z with
    | some d => some (.dat d)
    | none => none
  | _ => none
def wipeS (s : Slots) : List Nat → Slots
  | [] => s
  | v :: vs => (wipeS s vs).set v none
/-- the turns of a comprehension -/
def compL (put : D → Slots → Option Slots) (test : Slots → Option Bool) (elt : Slots → Option EV) : List D → Slots → Option (List D)
  | [], _ => some []
  | d :: r, s => do
    let s1 ← put d s
    let b ← test s1
    if b then do
      let e ← elt s1
      let y ← e.fix
      let ys ← compL put test elt r s
      some (y :: ys)
    else compL put test elt r s
abbrev Calls := Nat → List D → Rs EV
def intD : D → Option Int
  | .int i => some i
  | _ => none
def boolD : D → Option Bool
  | .bool b => some b
  | _ => none
/-- what a slot holds -/
def getS (s : Slots) (i : Nat) : Rs EV :=
  match s[i]? with
  | some (some (.dat d)) => .ok (.dat d)
  | some (some (.own d)) => .ok (.own d)
  | _ => .st
mutual
def evE (C : Calls) (s : Slots) : Ex → Rs EV
  | .var i => getS s i
  | .lit d => .ok (.dat d)
  | .glob _ d => .ok (.dat d)
  | .tup es => do
    let ds ← evF C s es
    if fits ds.length then .ok (.dat (.tuple ds)) else .st
  | .lst es => do
    let ds ← evF C s es
    if fits ds.length then .ok (.new (.list ds)) else .st
  | .bin op a b => do
    let x ← evE C s a
    let y ← evE C s b
    ofO (binD op x.d y.d)
  | .rep a b => do
    let x ← evE C s a
    let y ← evE C s b
    ofO (repD x y.d)
  | .neg a => do
    let x ← evE C s a
    ofO (negD x.d)
  | .cmp op a b => do
    let x ← evE C s a
    let y ← evE C s b
    let k ← ofO (cmpD op x.d y.d)
    .ok (.dat (.bool k))
  | .chain op op' a b c => do
    let x ← evE C s a
    let y ← evE C s b
    let k ← ofO (cmpD op x.d y.d)
    if k then do
      let z ← evE C s c
      let k' ← ofO (cmpD op' y.d z.d)
      .ok (.dat (.bool k'))
    else .ok (.dat (.bool false))
  | .and es => evAnd C s es
  | .or es => evOr C s es
  | .not a => do
    let x ← evE C s a
    let b ← ofO (boolD x.d)
    .ok (.dat (.bool (!b)))
  | .ife c a b => do
    let k ← evT C s c
    if k then evE C s a else evE C s b
  | .idx a b => do
    let x ← evE C s a
    let y ← evE C s b
    ofO (idxD x.d y.d)
  | .slice a lo hi => do
    let x ← evE C s a
    let l ← evO C s lo
    let h ← evO C s hi
    ofO (sliceD x.d l h)
  | .rev a => do
    let x ← evE C s a
    ofO (revD x.d)
  | .call f es => do
    let ds ← evF C s es
    C f ds
  | .blt b es => do
    let ds ← evD C s es
    ofO (bfD b ds)
  | .isi a t => do
    let x ← evE C s a
    .ok (.dat (.bool (isiD t x.d)))
  | .comp elt t it ifs own => do
    let ds ← evI C s it
    let ys ← ofO (if fits ds.length then compL t.put (fun s => (evTs C s ifs).toO) (fun s => (evE C s elt).toO) ds (wipeS s (own.map (·.2))) else none)
    .ok (.new (.list ys))
  | .mapix _ kvs e => do
    let x ← evE C s e
    ofO (mapD kvs x.d)
  | .lrange it => do
    let ds ← evR C s it
    if fits ds.length then .ok (.new (.list ds)) else .st
/-- a range as a list -/
def evR (C : Calls) (s : Slots) : It → Rs (List D)
  | .range1 a => do
    let x ← evE C s a
    let j ← ofO (intD x.d)
    if decide (-(2 ^ 62) ≤ j) && decide (j < 2 ^ 62) then .ok (rangeL 0 j) else .st
  | .range2 a b => do
    let x ← evE C s a
    let y ← evE C s b
    let i ← ofO (intD x.d)
    let j ← ofO (intD y.d)
    if decide (-(2 ^ 62) ≤ i) && decide (i < 2 ^ 62) && decide (-(2 ^ 62) ≤ j) && decide (j < 2 ^ 62) then .ok (rangeL i j) else .st
  | .ex _ => .st
/-- arguments that are handed on, items that are kept -/
def evF (C : Calls) (s : Slots) : Exs → Rs (List D)
  | .nil => .ok []
  | .cons e es => do
    let x ← evE C s e
    let d ← ofO (x.fix)
    let ds ← evF C s es
    .ok (d :: ds)
/-- arguments that are looked at -/
def evD (C : Calls) (s : Slots) : Exs → Rs (List D)
  | .nil => .ok []
  | .cons e es => do
    let x ← evE C s e
    let ds ← evD C s es
    .ok (x.d :: ds)
def evAnd (C : Calls) (s : Slots) : Exs → Rs EV
  | .nil => .st
  | .cons e .nil => evE C s e
  | .cons e (.cons e' es) => do
    let x ← evE C s e
    let b ← ofO (boolD x.d)
    if b then evAnd C s (.cons e' es) else .ok (.dat (.bool false))
def evOr (C : Calls) (s : Slots) : Exs → Rs EV
  | .nil => .st
  | .cons e .nil => evE C s e
  | .cons e (.cons e' es) => do
    let x ← evE C s e
    let b ← ofO (boolD x.d)
    if b then .ok (.dat (.bool true)) else evOr C s (.cons e' es)
def evO (C : Calls) (s : Slots) : Ox → Rs (Option Int)
  | .none => .ok none
  | .some e => do
    let x ← evE C s e
    let i ← ofO (intD x.d)
    .ok (some i)
def evI (C : Calls) (s : Slots) : It → Rs (List D)
  | .ex e => do
    let x ← evE C s e
    ofO (itD x.d)
  | .range1 a => do
    let x ← evE C s a
    let j ← ofO (intD x.d)
    if decide (-(2 ^ 62) ≤ j) && decide (j < 2 ^ 62) then .ok (rangeL 0 j) else .st
  | .range2 a b => do
    let x ← evE C s a
    let i ← ofO (intD x.d)
    let y ← evE C s b
    let j ← ofO (intD y.d)
    if decide (-(2 ^ 62) ≤ i) && decide (i < 2 ^ 62) && decide (-(2 ^ 62) ≤ j) && decide (j < 2 ^ 62) then .ok (rangeL i j) else .st
/-- what a loop walks: it is kept -/
def evIF (C : Calls) (s : Slots) : It → Rs (List D)
  | .ex e => do
    let x ← evE C s e
    let d ← ofO x.fix
    ofO (itD d)
  | .range1 a => do
    let x ← evE C s a
    let j ← ofO (intD x.d)
    if decide (-(2 ^ 62) ≤ j) && decide (j < 2 ^ 62) then .ok (rangeL 0 j) else .st
  | .range2 a b => do
    let x ← evE C s a
    let i ← ofO (intD x.d)
    let y ← evE C s b
    let j ← ofO (intD y.d)
    if decide (-(2 ^ 62) ≤ i) && decide (i < 2 ^ 62) && decide (-(2 ^ 62) ≤ j) && decide (j < 2 ^ 62) then .ok (rangeL i j) else .st
/-- a test -/
def evT (C : Calls) (s : Slots) : Ex → Rs Bool
  | .and es => evAndT C s es
  | .or es => evOrT C s es
  | .not a => do
    let b ← evT C s a
    .ok (!b)
  | .var i => do
    let x ← getS s i
    ofO (truthD x.d)
  | .cmp op a b => do
    let x ← evE C s a
    let y ← evE C s b
    ofO (cmpD op x.d y.d)
  | .chain op op' a b c => do
    let x ← evE C s a
    let y ← evE C s b
    let k ← ofO (cmpD op x.d y.d)
    if k then do
      let z ← evE C s c
      ofO (cmpD op' y.d z.d)
    else .ok false
  | .call f es => do
    let ds ← evF C s es
    let x ← C f ds
    ofO (truthD x.d)
  | .blt b es => do
    let ds ← evD C s es
    let x ← ofO (bfD b ds)
    ofO (truthD x.d)
  | .isi a t => do
    let x ← evE C s a
    .ok (isiD t x.d)
  | .idx a b => do
    let x ← evE C s a
    let y ← evE C s b
    let z ← ofO (idxD x.d y.d)
    ofO (truthD z.d)
  | .lit d => ofO (truthD d)
  | .slice a lo hi => do
    let x ← evE C s a
    let l ← evO C s lo
    let h ← evO C s hi
    let z ← ofO (sliceD x.d l h)
    ofO (truthD z.d)
  | .bin op a b => do
    let x ← evE C s a
    let y ← evE C s b
    let z ← ofO (binD op x.d y.d)
    ofO (truthD z.d)
  | _ => .st
def evAndT (C : Calls) (s : Slots) : Exs → Rs Bool
  | .nil => .ok true
  | .cons e es => do
    let b ← evT C s e
    if b then evAndT C s es else .ok false
def evOrT (C : Calls) (s : Slots) : Exs → Rs Bool
  | .nil => .ok false
  | .cons e es => do
    let b ← evT C s e
    if b then .ok true else evOrT C s es
/-- the tests of a comprehension -/
def evTs (C : Calls) (s : Slots) : Exs → Rs Bool
  | .nil => .ok true
  | .cons e .nil => evT C s e
  | _ => .st
end

/-! ### statements -/
mutual
inductive Stm where
  | asg (t : Tg) (e : Ex)
  | aug (i : Nat) (op : Bop) (e : Ex)
  | app (i : Nat) (e : Ex)
  | expr (e : Ex)
  | ret (e : Ex)
  | ite (c : Ex) (a b : Stms)
  | for (t : Tg) (it : It) (body : Stms)
  | whl (c : Ex) (body : Stms)
  | brk
  | cnt
  | pass
  | raise (cls : Nat)
  | try (body : Stms) (hs : Hds)
  | frz (i : Nat)
  | par2 (i j : Nat) (a b : Ex)
  | par3 (i j l : Nat) (a b c : Ex)
inductive Stms where
  | nil
  | cons (st : Stm) (r : Stms)
/-- except clauses whose suites return a constant -/
inductive Hds where
  | nil
  | cons (cls : Nat) (d : D) (r : Hds)
end
/-- where a statement ends -/
inductive Fl where
  | nx (s : Slots)
  | rt (v : EV)
  | bk (s : Slots)
  | ct (s : Slots)
  | ex (x : XV) (s : Slots)
def lift {α : Type} (s : Slots) : Rs α → (α → Option Fl) → Option Fl
  | .ok a, f => f a
  | .ex x, _ => some (.ex x s)
  | .st, _ => none
@[simp] theorem lift_ok {α : Type} (s : Slots) (a : α) (f : α → Option Fl) : lift s (.ok a) f = f a := rfl
@[simp] theorem lift_ex {α : Type} (s : Slots) (x : XV) (f : α → Option Fl) : lift s (.ex x) f = some (.ex x s) := rfl
@[simp] theorem lift_st {α : Type} (s : Slots) (f : α → Option Fl) : lift s .st f = none := rfl
/-- then -/
def andThen : Option Fl → (Slots → Option Fl) → Option Fl
  | some (.nx s), f => f s
  | r, _ => r
def EV.give : EV → EV
  | .own d => .new d
  | v => v
def EV.slot : EV → Option SV
  | .dat d => some (.dat d)
  | .new d => some (.own d)
  | .own _ => none
def asgS (t : Tg) (v : EV) (s : Slots) : Option Fl :=
  match t with
  | .var i => match v.slot with
    | some z => some (.nx (s.set i (some z)))
    | none => none
  | .tup ts => match t.put v.d s with
    | some s' => some (.nx s')
    | none => none
/-- the list that a slot holds alone -/
def ownL (i : Nat) (s : Slots) : Option (List D) :=
  match s[i]? with
  | some (some (.own (.list xs))) => some xs
  | _ => none
def appS (i : Nat) (xs : List D) (d : D) (s : Slots) : Option Fl :=
  if decide (xs.length < 16777216) then some (.nx (s.set i (some (.own (.list (xs ++ [d])))))) else none
def frzS (i : Nat) (s : Slots) : Slots :=
  match s[i]? with
  | some (some (.own d)) => s.set i (some (.dat d))
  | _ => s
/-- for: over the rest of what is walked -/
def forL (put : D → Slots → Option Slots) (body : Slots → Option Fl) : List D → Slots → Option Fl
  | [], s => some (.nx s)
  | d :: r, s => match put d s with
    | some s1 => match body s1 with
      | some (.nx s2) => forL put body r s2
      | some (.ct s2) => forL put body r s2
      | some (.bk s2) => some (.nx s2)
      | x => x
    | none => none
def whlL (c : Slots → Rs Bool) (body : Slots → Option Fl) : Nat → Slots → Option Fl
  | 0, _ => none
  | n + 1, s => lift s (c s) fun b => if b then
      match body s with
      | some (.nx s2) => whlL c body n s2
      | some (.ct s2) => whlL c body n s2
      | some (.bk s2) => some (.nx s2)
      | x => x
    else some (.nx s)
def Hds.pick (sub : Nat → Nat → Option Bool) (x : XV) : Hds → Option (Option D)
  | .nil => some none
  | .cons c d r => match sub x.cls c with
    | some true => some (some d)
    | some false => r.pick sub x
    | none => none
mutual
def evS (C : Calls) (sub : Nat → Nat → Option Bool) (n : Nat) : Stm → Slots → Option Fl
  | .asg t e, s => lift s (evE C s e) fun v => asgS t v s
  | .aug i op e, s => lift s (getS s i) fun x => lift s (evE C s e) fun y => lift s (ofO (augD op x.d y.d)) fun z => match z with
    | .dat d => some (.nx (s.set i (some (.dat d))))
    | _ => none
  | .app i e, s => match ownL i s with
    | some xs => lift s (evE C s e) fun v => lift s (ofO v.fix) fun d => appS i xs d s
    | none => none
  | .expr e, s => lift s (evE C s e) fun _ => some (.nx s)
  | .ret e, s => lift s (evE C s e) fun v => some (.rt v.give)
  | .ite c a b, s => lift s (evT C s c) fun k => if k then evB C sub n a s else evB C sub n b s
  | .for t it body, s => lift s (evIF C s it) fun ds => forL t.put (evB C sub n body) ds s
  | .whl c body, s => whlL (fun s => evT C s c) (evB C sub n body) n s
  | .brk, s => some (.bk s)
  | .cnt, s => some (.ct s)
  | .pass, s => some (.nx s)
  | .raise c, s => some (.ex ⟨c, []⟩ s)
  | .try body hs, s => match evB C sub n body s with
    | some (.ex x s') => match hs.pick sub x with
      | some (some d) => some (.rt (.dat d))
      | some none => some (.ex x s')
      | none => none
    | r => r
  | .frz i, s => some (.nx (frzS i s))
  | .par2 i j a b, s => lift s (evE C s a) fun x => lift s (evE C s b) fun y => match x.slot, y.slot with
    | some x', some y' => some (.nx ((s.set i (some x')).set j (some y')))
    | _, _ => none
  | .par3 i j l a b c, s => lift s (evE C s a) fun x => lift s (evE C s b) fun y => lift s (evE C s c) fun z => match x.slot, y.slot, z.slot with
    | some x', some y', some z' => some (.nx (((s.set i (some x')).set j (some y')).set l (some z')))
    | _, _, _ => none
def evB (C : Calls) (sub : Nat → Nat → Option Bool) (n : Nat) : Stms → Slots → Option Fl
  | .nil, s => some (.nx s)
  | .cons st r, s => andThen (evS C sub n st s) (evB C sub n r)
end
/-- a def: its parameters, its slots, its body -/
structure Fn where
  np : Nat
  ns : Nat
  body : Stms
def outcome : Option Fl → Rs EV
  | some (.nx _) => .ok (.dat .none)
  | some (.rt v) => .ok v
  | some (.ex x _) => .ex x
  | _ => .st
def entry (ns : Nat) (ds : List D) : Slots := ds.map (fun d => some (.dat d)) ++ List.replicate (ns - ds.length) none
def run (T : Nat → Option Fn) (sub : Nat → Nat → Option Bool) (n : Nat) : Nat → Calls
  | 0 => fun _ _ => .st
  | k + 1 => fun f ds => match T f with
    | some fn => if ds.length = fn.np then outcome (evB (run T sub n k) sub n fn.body (entry fn.ns ds)) else .st
    | none => .st
end DV

namespace DV
open PySem PySem.Spec PyProof.Rows L2

/-! ### the state -/
section
variable (K : PySem.W.Frag)
/-- the list or dict at p is d: its own object in H, what is in it in Hf -/
def TopR (Hf H : Hp) (p : Addr) (d : D) : Prop :=
  (∃ xs ds, d = .list ds ∧ H p = some (.lst xs) ∧ RpAll K Hf xs ds) ∨
    ∃ ks ds, d = .dict ds ∧ H p = some (.dK ks) ∧ RpKv K Hf (ks.map fun kv => (kV kv.1, kv.2)) ds
def OwnR (Hf : Hp) (ow : Addr → Option Nat) (H : Hp) (i : Nat) (u : V) (d : D) : Prop := ∃ p, u = .ref p ∧ ow p = some i ∧ TopR K Hf H p d
def SlotR (Hf : Hp) (ow : Addr → Option Nat) (H : Hp) (i : Nat) (u : V) : SV → Prop
  | .dat d => Rp K Hf u d
  | .own d => OwnR K Hf ow H i u d
structure Grow (Hf H Hf' H' : Hp) : Prop where
  up : Same H H'
  fup : Same Hf Hf'
  sub : Same Hf' H'
  nof : ∀ a, H a ≠ none → Hf a = none → Hf' a = none
/-- H0: what was kept and what was there at the entry -/
structure Ok (H0 : Hp × Hp) (Hf : Hp) (ow : Addr → Option Nat) (H : Hp) (σ : L2.St) (s : Slots) : Prop where
  gr : Grow H0.1 H0.2 Hf H
  own : ∀ a, ow a ≠ none → Hf a = none ∧ H a ≠ none ∧ H0.2 a = none
  len : σ.length = s.length
  at_ : ∀ i v, s[i]? = some (some v) → ∃ u, σ[i]? = some (some u) ∧ SlotR K Hf ow H i u v
def RE (Hb Hf H : Hp) (ow : Addr → Option Nat) (u : V) : EV → Prop
  | .dat d => Rp K Hf u d
  | .new d => ∃ p, u = .ref p ∧ Hb p = none ∧ Hf p = none ∧ TopR K Hf H p d
  | .own d => ∃ i, OwnR K Hf ow H i u d
/-- what may be looked at -/
def Rx (Hf H : Hp) (u : V) (d : D) : Prop := Rp K Hf u d ∨ ∃ p, u = .ref p ∧ TopR K Hf H p d
inductive RxAll (Hf H : Hp) : List V → List D → Prop where
  | nil : RxAll Hf H [] []
  | cons {u : V} {us : List V} {d : D} {ds : List D} : Rx K Hf H u d → RxAll Hf H us ds → RxAll Hf H (u :: us) (d :: ds)
end
section
variable {K : PySem.W.Frag} {H0 : Hp × Hp} {Hf Hf' Hf'' H H' H'' Hb : Hp} {ow : Addr → Option Nat} {σ : L2.St} {s : Slots} {u : V} {d : D} {ev : EV} {p : Addr} {i : Nat}
theorem Grow.refl (h : Same Hf H) : Grow Hf H Hf H := ⟨Same.refl _, Same.refl _, h, fun _ _ h => h⟩
theorem Grow.trans (a : Grow Hf H Hf' H') (b : Grow Hf' H' Hf'' H'') : Grow Hf H Hf'' H'' :=
  ⟨a.up.trans b.up, a.fup.trans b.fup, b.sub, fun x h1 h2 => b.nof x (fun e => by
    cases q : H x with
    | none => exact h1 q
    | some o => rw [a.up x o q] at e; cases e) (a.nof x h1 h2)⟩
theorem TopR.mono (h : TopR K Hf H p d) (g : Grow Hf H Hf' H') : TopR K Hf' H' p d := by
  rcases h with ⟨xs, ds, e, h, r⟩ | ⟨ks, ds, e, h, r⟩
  · exact .inl ⟨xs, ds, e, g.up _ _ h, r.mono g.fup⟩
  · exact .inr ⟨ks, ds, e, g.up _ _ h, r.mono g.fup⟩
theorem TopR.there (h : TopR K Hf H p d) : H p ≠ none := by
  rcases h with ⟨xs, ds, e, h, r⟩ | ⟨ks, ds, e, h, r⟩ <;> (rw [h]; exact fun z => nomatch z)
theorem TopR.rp (h : TopR K Hf H p d) (f : Same Hf H) : Rp K H (.ref p) d := by
  rcases h with ⟨xs, ds, rfl, h, r⟩ | ⟨ks, ds, rfl, h, r⟩
  · exact .lst (.inl (.inl h)) (r.mono f)
  · exact .dct ⟨ks, .inl h, rfl⟩ (r.mono f)
theorem OwnR.mono (h : OwnR K Hf ow H i u d) (g : Grow Hf H Hf' H') : OwnR K Hf' ow H' i u d := let ⟨p, e, o, t⟩ := h; ⟨p, e, o, t.mono g⟩
theorem RE.mono (h : RE K Hb Hf H ow u ev) (g : Grow Hf H Hf' H') : RE K Hb Hf' H' ow u ev := by
  cases ev with
  | dat d => exact Rp.mono g.fup (show Rp K Hf u d from h)
  | new d =>
    obtain ⟨p, e, b, f, t⟩ := h
    exact ⟨p, e, b, g.nof p t.there f, t.mono g⟩
  | own d =>
    obtain ⟨i, o⟩ := h
    exact ⟨i, o.mono g⟩
theorem RE.back (h : RE K H Hf' H' ow u ev) (b : Same Hb H) : RE K Hb Hf' H' ow u ev := by
  cases ev with
  | dat d => exact h
  | new d =>
    obtain ⟨p, e, q, f, t⟩ := h
    exact ⟨p, e, b.free q, f, t⟩
  | own d => exact h
theorem RE.rx (h : RE K Hb Hf H ow u ev) : Rx K Hf H u ev.d := by
  cases ev with
  | dat d => exact .inl h
  | new d => obtain ⟨p, e, _, _, t⟩ := h; exact .inr ⟨p, e, t⟩
  | own d => obtain ⟨i, p, e, _, t⟩ := h; exact .inr ⟨p, e, t⟩
theorem Rx.mono (h : Rx K Hf H u d) (g : Grow Hf H Hf' H') : Rx K Hf' H' u d := by
  rcases h with h | ⟨p, e, t⟩
  · exact .inl (h.mono g.fup)
  · exact .inr ⟨p, e, t.mono g⟩
theorem Rx.rp (h : Rx K Hf H u d) (f : Same Hf H) : Rp K H u d := by
  rcases h with h | ⟨p, rfl, t⟩
  · exact h.mono f
  · exact t.rp f
theorem RxAll.mono (g : Grow Hf H Hf' H') : ∀ {us : List V} {ds : List D}, RxAll K Hf H us ds → RxAll K Hf' H' us ds
  | _, _, .nil => .nil
  | _, _, .cons h r => .cons (h.mono g) (RxAll.mono g r)
/-- a list that is looked at: its items are kept -/
theorem Rx.list {ds : List D} (h : Rx K Hf H u (.list ds)) (f : Same Hf H) : ∃ a xs, u = .ref a ∧ SqL K H a xs ∧ RpAll K Hf xs ds := by
  rcases h with h | ⟨p, rfl, t⟩
  · cases h with
    | lst q r => exact ⟨_, _, rfl, L2.Same.seq f q, r⟩
  · rcases t with ⟨xs, ds', e, h, r⟩ | ⟨ks, ds', e, h, r⟩
    · cases e; exact ⟨p, xs, rfl, .inl (.inl h), r⟩
    · cases e
theorem Rx.tuple {ds : List D} (h : Rx K Hf H u (.tuple ds)) (f : Same Hf H) : ∃ a xs, u = .ref a ∧ SqT K Hf a xs ∧ SqT K H a xs ∧ RpAll K Hf xs ds := by
  rcases h with h | ⟨p, rfl, t⟩
  · cases h with
    | tup q r => exact ⟨_, _, rfl, q, Same.sqT f q, r⟩
  · rcases t with ⟨xs, ds', e, h, r⟩ | ⟨ks, ds', e, h, r⟩ <;> cases e
theorem Rx.int {i : Int} (h : Rx K Hf H u (.int i)) : u = .int i := by
  rcases h with h | ⟨p, rfl, t⟩
  · cases h; rfl
  · rcases t with ⟨xs, ds', e, h, r⟩ | ⟨ks, ds', e, h, r⟩ <;> cases e
theorem Rx.str {x : Str} (h : Rx K Hf H u (.str x)) : u = .str x := by
  rcases h with h | ⟨p, rfl, t⟩
  · cases h; rfl
  · rcases t with ⟨xs, ds', e, h, r⟩ | ⟨ks, ds', e, h, r⟩ <;> cases e
theorem Rx.bool {b : Bool} (h : Rx K Hf H u (.bool b)) : u = .bl b := by
  rcases h with h | ⟨p, rfl, t⟩
  · cases h; rfl
  · rcases t with ⟨xs, ds', e, h, r⟩ | ⟨ks, ds', e, h, r⟩ <;> cases e
theorem Rx.none (h : Rx K Hf H u .none) : u = .non := by
  rcases h with h | ⟨p, rfl, t⟩
  · cases h; rfl
  · rcases t with ⟨xs, ds', e, h, r⟩ | ⟨ks, ds', e, h, r⟩ <;> cases e
/-- a dict of the heap -/
theorem Rx.dict {ds : List (D × D)} (h : Rx K Hf H u (.dict ds)) (f : Same Hf H) : ∃ a kvs, u = .ref a ∧ DictIs K H a kvs ∧ RpKv K Hf kvs ds := by
  rcases h with h | ⟨p, rfl, t⟩
  · cases h with
    | dct q r => exact ⟨_, _, rfl, Same.dict f q, r⟩
  · rcases t with ⟨xs, ds', e, h, r⟩ | ⟨ks, ds', e, h, r⟩
    · cases e
    · cases e; exact ⟨p, _, rfl, ⟨ks, .inl h, rfl⟩, r⟩
theorem Ok.fr (o : Ok K H0 Hf ow H σ s) : Same Hf H := o.gr.sub
theorem Ok.grow (o : Ok K H0 Hf ow H σ s) (g : Grow Hf H Hf' H') : Ok K H0 Hf' ow H' σ s :=
  ⟨o.gr.trans g, fun a h => by
    obtain ⟨h1, h2, h3⟩ := o.own a h
    exact ⟨g.nof a h2 h1, fun e => h2 (g.up.free e), h3⟩, o.len, fun i v e => by
    obtain ⟨u, e1, r⟩ := o.at_ i v e
    refine ⟨u, e1, ?_⟩
    cases v with
    | dat d => exact Rp.mono g.fup (show Rp K Hf u d from r)
    | own d => exact OwnR.mono r g⟩
/-- a new object is laid -/
theorem same_new {o : HO} (h : H p = none) : Same H (upd H p o) := fun b x e => by
  rw [upd_ne (ne_of_none e h)]; exact e
theorem Grow.laid {o : HO} (f : Same Hf H) (h : H p = none) : Grow Hf H Hf (upd H p o) := ⟨same_new h, Same.refl _, f.trans (same_new h), fun _ _ h => h⟩
/-- .. and it is kept as it is -/
theorem Grow.fixed {o : HO} (f : Same Hf H) (h : H p = none) : Grow Hf H (upd Hf p o) (upd H p o) :=
  ⟨same_new h, same_new (f.free h), fun b x e => by
    by_cases z : b = p
    · subst z; rw [upd_same] at e ⊢; exact e
    · rw [upd_ne z] at e ⊢; exact f _ _ e, fun a h1 h2 => by
    have z : a ≠ p := fun z => h1 (by rw [z]; exact h)
    rw [upd_ne z]; exact h2⟩
/-- an object that is there, in no slot, is kept from now on -/
theorem Grow.fix {o : HO} (f : Same Hf H) (h : H p = some o) : Same Hf (upd Hf p o) ∧ Same (upd Hf p o) H :=
  ⟨fun b x e => by
    by_cases z : b = p
    · subst z; rw [f _ _ e] at h; cases h; rw [upd_same]
    · rw [upd_ne z]; exact e, fun b x e => by
    by_cases z : b = p
    · subst z; rw [upd_same] at e; cases e; exact h
    · rw [upd_ne z] at e; exact f _ _ e⟩
end

/-! ### readings -/
/-- an exception: its class's number by the table ca -/
def XR (ca : Nat → Addr) (c : Value) (d : Option Addr) (x : XV) : Prop := c = .ref (ca x.cls) ∧ d = none ∧ x.args = []
section
variable (K : PySem.W.Frag) (ca : Nat → Addr) (W : WX)
/-- what is wanted behind a computation -/
def Post {α β : Type} (Rel : Hp → Hp → Hp → β → α → Prop) (Hf H : Hp) (σ : L2.St) (r : Rs α) (Q : β → Hp → Prop) : Prop :=
  match r with
  | .ok a => ∀ b Hf' H', Grow Hf H Hf' H' → Rel H Hf' H' b a → Q b H'
  | .ex x => ∀ c d Hf' H', Grow Hf H Hf' H' → XR ca c d x → W c d σ H'
  | .st => False
def tE (m : Slots → Rs EV) : TE := fun σ H Q => ∃ H0 Hf ow s, Ok K H0 Hf ow H σ s ∧ Post ca W (fun Hb Hf' H' u ev => RE K Hb Hf' H' ow u ev) Hf H σ (m s) Q
def tT (m : Slots → Rs Bool) : TT := fun σ H Q => ∃ H0 Hf ow s, Ok K H0 Hf ow H σ s ∧ Post ca W (fun _ _ _ b a => b = a) Hf H σ (m s) Q
/-- arguments handed on: they are kept from now on -/
def tF (m : Slots → Rs (List D)) : TA := fun σ H Q => ∃ H0 Hf ow s, Ok K H0 Hf ow H σ s ∧ Post ca W (fun _ Hf' _ us ds => RpAll K Hf' us ds) Hf H σ (m s) Q
/-- arguments looked at -/
def tD (m : Slots → Rs (List D)) : TA := fun σ H Q => ∃ H0 Hf ow s, Ok K H0 Hf ow H σ s ∧ Post ca W (fun _ Hf' H' us ds => RxAll K Hf' H' us ds) Hf H σ (m s) Q
def tO (m : Slots → Rs (Option Int)) : TO := fun σ H Q => ∃ H0 Hf ow s, Ok K H0 Hf ow H σ s ∧ Post ca W (fun _ _ _ b a => b = a) Hf H σ (m s) Q
end
/-- what a primitive gives -/
def RN (K : PySem.W.Frag) (Hb Hf H : Hp) (u : V) : EV → Prop
  | .dat d => Rp K Hf u d
  | .new d => ∃ p, u = .ref p ∧ Hb p = none ∧ Hf p = none ∧ TopR K Hf H p d
  | .own _ => False
def Prim (K : PySem.W.Frag) (Hf H : Hp) (r : Option EV) (Q : VK) : Prop :=
  match r with
  | some ev => ∀ u Hf' H', Grow Hf H Hf' H' → RN K H Hf' H' u ev → Q u H'
  | none => False
theorem RN.re {K : PySem.W.Frag} {Hb Hf H : Hp} {u : V} {ev : EV} {ow : Addr → Option Nat} (h : RN K Hb Hf H u ev) : RE K Hb Hf H ow u ev := by
  cases ev with
  | dat d => exact h
  | new d => exact h
  | own d => exact h.elim
section
variable {K : PySem.W.Frag} {ca : Nat → Addr} {W : WX} {α β γ δ : Type} {Hf H Hf' H' : Hp} {σ : L2.St} {ow : Addr → Option Nat} {Q : VK}
/-- the post of the second part, behind the first one -/
theorem Post.shift {Rel : Hp → Hp → Hp → β → α → Prop} (back : ∀ {Hb Hb' Hf H : Hp} {b : β} {a : α}, Same Hb Hb' → Rel Hb' Hf H b a → Rel Hb Hf H b a) {r : Rs α} {Q : β → Hp → Prop} (g : Grow Hf H Hf' H') (h : Post ca W Rel Hf H σ r Q) : Post ca W Rel Hf' H' σ r Q := by
  cases r with
  | ok a => exact fun b Hf2 H2 g2 q => h b Hf2 H2 (g.trans g2) (back g.up q)
  | ex x => exact fun c d Hf2 H2 g2 q => h c d Hf2 H2 (g.trans g2) q
  | st => exact h
theorem backE {Hb Hb' Hf H : Hp} {b : V} {a : EV} (s : Same Hb Hb') (h : RE K Hb' Hf H ow b a) : RE K Hb Hf H ow b a := h.back s
/-- the first part of a computation -/
theorem Post.bind {Rel : Hp → Hp → Hp → β → α → Prop} {Rel2 : Hp → Hp → Hp → δ → γ → Prop} {r : Rs α} {f : α → Rs γ} {Q : δ → Hp → Prop} {Q1 : β → Hp → Prop} (h : Post ca W Rel2 Hf H σ (r >>= f) Q)
    (k : ∀ a b Hf1 H1, Grow Hf H Hf1 H1 → Rel H Hf1 H1 b a → Post ca W Rel2 Hf H σ (f a) Q → Q1 b H1) : Post ca W Rel Hf H σ r Q1 := by
  cases r with
  | ok a => exact fun b Hf1 H1 g q => k a b Hf1 H1 g q h
  | ex x => exact h
  | st => exact h
theorem Post.prim {o : Option EV} (h : Post ca W (fun Hb Hf' H' u ev => RE K Hb Hf' H' ow u ev) Hf H σ (ofO o) Q) : Prim K Hf H o Q := by
  cases o with
  | none => exact h
  | some ev => exact fun u Hf' H' g r => h u Hf' H' g r.re
end
end DV

namespace DV
open PySem PySem.Spec PyProof.Rows L2

theorem fits_le {n : Nat} (h : fits n = true) : n ≤ sizeLine := by
  rw [sizeLine_eq]
  exact of_decide_eq_true h
theorem le_fits {n : Nat} (h : n ≤ 16777216) : fits n = true := decide_eq_true h

/-! ### two values -/
def rPrim (K : PySem.W.Frag) (f : D → D → Option EV) : R2 := fun x y H Q => ∃ Hf dx dy, Same Hf H ∧ Rx K Hf H x dx ∧ Rx K Hf H y dy ∧ Prim K Hf H (f dx dy) Q
section
variable {X : Cx} {K : PySem.W.Frag} {Hf H : Hp} {Q : VK}
theorem Prim.dat {d : D} {u : V} (h : Prim K Hf H (some (.dat d)) Q) (f : Same Hf H) (r : Rp K Hf u d) : Q u H := h u Hf H (Grow.refl f) r
theorem Prim.datNew {d : D} {p : Addr} {o : HO} (h : Prim K Hf H (some (.dat d)) Q) (f : Same Hf H) (n : H p = none) (r : Rp K (upd Hf p o) (.ref p) d) : Q (.ref p) (upd H p o) :=
  h (.ref p) (upd Hf p o) (upd H p o) (Grow.fixed f n) r
theorem Prim.new {d : D} {p : Addr} {o : HO} (h : Prim K Hf H (some (.new d)) Q) (f : Same Hf H) (n : H p = none) (r : TopR K Hf (upd H p o) p d) : Q (.ref p) (upd H p o) :=
  h (.ref p) Hf (upd H p o) (Grow.laid f n) ⟨p, rfl, n, f.free n, r⟩
theorem Prim.newList {ds : List D} {xs : List V} {p : Addr} (h : Prim K Hf H (some (.new (.list ds))) Q) (f : Same Hf H) (n : H p = none) (r : RpAll K Hf xs ds) : Q (.ref p) (upd H p (.lst xs)) :=
  h.new f n (.inl ⟨xs, ds, rfl, upd_same, r⟩)
theorem Prim.newTup {ds : List D} {xs : List V} {p : Addr} (h : Prim K Hf H (some (.dat (.tuple ds))) Q) (f : Same Hf H) (n : H p = none) (r : RpAll K Hf xs ds) : Q (.ref p) (upd H p (.tup xs)) :=
  h.datNew f n (.tup (.inl (.inl upd_same)) (r.mono (same_new (f.free n))))

/-- lists of any kind put together -/
theorem cat_lists (pins : List (Addr × Obj)) (s : Shared) (σ : L2.St) {a b : Addr} {xs ys : List V} (I : Inv X pins σ H s) (ha : SqL X.K H a xs) (hb : SqL X.K H b ys) (hz : xs.length + ys.length ≤ sizeLine) (q : ∀ p, H p = none → Q (.ref p) (upd H p (.lst (xs ++ ys)))) :
    wpAny (model X.prog X.w) X.A (binaryOp .Add (.ref a) (.ref b)) (EP X pins σ Q) X.xe s := by
  obtain ⟨its, r1, ⟨o, n, ho, hc, _, hd⟩, _⟩ := I.list ha
  obtain ⟨its2, r2, ⟨o2, n2, ho2, hc2, _, hd2⟩, _⟩ := I.list hb
  obtain ⟨cls, dd, data, sl⟩ := o
  obtain ⟨cls2, dd2, data2, sl2⟩ := o2
  simp only at hc hd hc2 hd2
  subst hc hd hc2 hd2
  have e : its.toArray ++ its2.toArray = (its ++ its2).toArray := by simp
  have l1 := r1.length
  have l2 := r2.length
  refine concat_meets ⟨_, ho, rfl⟩ ⟨_, ho2, rfl⟩ noFill_list_add seq_list_add PySem.F.slot_list_add PySem.F.entry_list_add (PySem.F.args_list_add_2 _ _) (list_addW a b its.toArray its2.toArray n n2 dd dd2 sl sl2 (by simp only [List.size_toArray]; omega)) ⟨ho, ho2, ?_⟩
  rw [e]
  exact ⟨.ref _, _, I.lnew (t' := s.toks) (r1.append r2) (by rw [List.length_append]; omega), rfl, q _ I.fresh⟩

theorem op_addD : OpR X (binaryOp .Add) (rPrim X.K addD) := by
  intro pins s σ H x y v u Q I rx ry h
  obtain ⟨Hf, dx, dy, f, hx, hy, h⟩ := h
  unfold addD at h
  split at h
  · exact op_add pins s σ H x y v u Q I rx ry ⟨_, _, hx.int, hy.int, h.dat f (.int _)⟩
  · split at h
    · rename_i hz
      exact op_add_str pins s σ H x y v u Q I rx ry ⟨_, _, hx.str, hy.str, fits_le hz, h.dat f (.str _)⟩
    · exact h.elim
  · split at h
    · rename_i hz
      obtain ⟨a, xs, rfl, ha, ra⟩ := hx.list f
      obtain ⟨b, ys, rfl, hb, rb⟩ := hy.list f
      cases rx
      cases ry
      refine cat_lists pins s σ I ha hb (by rw [ra.length, rb.length]; exact fits_le hz) fun p n => h.newList f n (ra.append rb)
    · exact h.elim
  · split at h
    · rename_i hz
      obtain ⟨a, xs, rfl, ka, ha, ra⟩ := hx.tuple f
      obtain ⟨b, ys, rfl, kb, hb, rb⟩ := hy.tuple f
      refine op_catA pins s σ H _ _ v u Q I rx ry ⟨a, b, xs, ys, rfl, rfl, ha, hb, by rw [ra.length, rb.length]; exact fits_le hz, fun e => ?_, fun e e2 => ?_, fun e e2 p n => ?_⟩
      · subst e
        cases ra
        exact h.dat f (.tup kb rb)
      · subst e2
        cases rb
        rw [List.append_nil] at h
        exact h.dat f (.tup ka ra)
      · exact h.newTup f n (ra.append rb)
    · exact h.elim
  · exact h.elim
theorem op_subD : OpR X (binaryOp .Sub) (rPrim X.K subD) := by
  intro pins s σ H x y v u Q I rx ry h
  obtain ⟨Hf, dx, dy, f, hx, hy, h⟩ := h
  unfold subD at h
  split at h
  · exact op_sub pins s σ H x y v u Q I rx ry ⟨_, _, hx.int, hy.int, h.dat f (.int _)⟩
  · exact h.elim
/-- a product below 2^27 bits -/
def CMulX (i j : Int) : Prop := i.natAbs.log2 + j.natAbs.log2 < 134000000
theorem CMulX.ok {i j : Int} (h : CMulX i j) : IntMulOk i j := by
  have b : ∀ x : Int, Builtin.Int.intBits x ≤ x.natAbs.log2 + 1 := fun x => by
    unfold Builtin.Int.intBits
    split <;> omega
  have h1 := b i
  have h2 := b j
  have h3 : i.natAbs.log2 + j.natAbs.log2 < 134000000 := h
  have e : bitsLine = 134217728 := by decide
  unfold IntMulOk
  intro z
  rw [Bool.and_eq_true] at z
  have z2 := z.2
  unfold Builtin.Int.intTooBig at z2
  have z3 := of_decide_eq_true z2
  rw [e] at z3
  omega
theorem op_mulX : OpR X (binaryOp .Mult) (rI CMulX fun i j => .int (i * j)) := opI fun _ _ _ _ _ _ _ hc q => mul_int q hc.ok
/-- a list times an int -/
theorem rep_list (pins : List (Addr × Obj)) (s : Shared) (σ : L2.St) {l : Addr} {k : Int} {t : Tok} {xs : List V} (I : Inv X pins σ H s) (ha : H l = some (.lst xs)) (h1 : -(2 ^ 63) ≤ k) (h2 : k < 2 ^ 63) (hz : xs.length * k.toNat ≤ sizeLine) (q : ∀ p, H p = none → Q (.ref p) (upd H p (.lst (List.replicate k.toNat xs).flatten))) :
    wpAny (model X.prog X.w) X.A (binaryOp .Mult (.ref l) (.int k t)) (EP X pins σ Q) X.xe s :=
  op_rep pins s σ H (.ref l) (.int k) _ _ Q I rfl ⟨t, rfl⟩ ⟨l, k, xs, rfl, rfl, ha, h1, h2, hz, q⟩
theorem op_modD : OpR X (binaryOp .Mod) (rPrim X.K modD) := by
  intro pins s σ H x y v u Q I rx ry h
  obtain ⟨Hf, dx, dy, f, hx, hy, h⟩ := h
  unfold modD at h
  split at h
  · split at h
    · rename_i hz
      exact op_mod pins s σ H x y v u Q I rx ry ⟨_, _, hx.int, hy.int, hz, h.dat f (.int _)⟩
    · exact h.elim
  · exact h.elim
theorem op_fdivWD : OpR X (binaryOp .FloorDiv) (rI (fun _ j => 0 < j ∧ j.natAbs.log2 < 9000) fun i j => .int (i / j)) := opI fun i j _ _ _ _ _ hc q => by
  have h1 : (0 : Int) < j := hc.1
  exact floordiv_int (by omega) (by rw [Int.fdiv_eq_ediv_of_nonneg i (by omega)]; exact q) (.inl (PyProof.noPylong_of_log2 hc.2))
theorem op_fdivD : OpR X (binaryOp .FloorDiv) (rPrim X.K fdivD) := by
  intro pins s σ H x y v u Q I rx ry h
  obtain ⟨Hf, dx, dy, f, hx, hy, h⟩ := h
  unfold fdivD at h
  split at h
  · split at h
    · rename_i hz
      rw [Bool.and_eq_true] at hz
      exact op_fdivWD pins s σ H x y v u Q I rx ry ⟨_, _, hx.int, hy.int, ⟨of_decide_eq_true hz.1, of_decide_eq_true hz.2⟩, h.dat f (.int _)⟩
    · exact h.elim
  · exact h.elim
theorem op_powD : OpR X (binaryOp .Pow) (rPrim X.K powD) := by
  intro pins s σ H x y v u Q I rx ry h
  obtain ⟨Hf, dx, dy, f, hx, hy, h⟩ := h
  unfold powD at h
  split at h
  · split at h
    · rename_i hz
      rw [Bool.and_eq_true, Bool.and_eq_true] at hz
      exact op_pow pins s σ H x y v u Q I rx ry ⟨_, _, hx.int, hy.int, ⟨of_decide_eq_true hz.1.1, of_decide_eq_true hz.1.2, of_decide_eq_true hz.2⟩, h.dat f (.int _)⟩
    · exact h.elim
  · exact h.elim
theorem un_negD : UnR X (unaryOp .USub) (fun x H Q => ∃ Hf dx, Same Hf H ∧ Rx X.K Hf H x dx ∧ Prim X.K Hf H (negD dx) Q) := by
  intro pins s σ H x v Q I rx h
  obtain ⟨Hf, dx, f, hx, h⟩ := h
  unfold negD at h
  split at h
  · exact un_neg pins s σ H x v Q I rx ⟨_, hx.int, h.dat f (.int _)⟩
  · exact h.elim

/-! ### comparisons -/
/-- a comparison as a truth value -/
def rCmp (K : PySem.W.Frag) (f : D → D → Option Bool) : R2 := fun x y H Q => ∃ Hf dx dy b, Same Hf H ∧ Rx K Hf H x dx ∧ Rx K Hf H y dy ∧ f dx dy = some b ∧ Q (.bl b) H
theorem okD_of {d : D} (h : okD d = true) : d.plain = true ∧ d.depth ≤ 64 := by
  unfold okD at h
  rw [Bool.and_eq_true] at h
  exact ⟨h.1, of_decide_eq_true h.2⟩
theorem op_eqP (hu : X.A.units + 64 < cLine) : OpR X (compareOp .Eq) (rCmp X.K eqD) := by
  intro pins s σ H x y v u Q I rx ry h
  obtain ⟨Hf, dx, dy, b, f, hx, hy, e, q⟩ := h
  unfold eqD at e
  split at e
  · rename_i hz
    rw [Bool.and_eq_true] at hz
    obtain ⟨p1, p2⟩ := okD_of hz.1
    cases e
    obtain ⟨as, r1⟩ := Rp.reads I dx x v p1 (hx.rp f) rx
    obtain ⟨bs, r2⟩ := Rp.reads I dy y u hz.2 (hy.rp f) ry
    have hm := Nat.min_le_left dx.depth dy.depth
    exact PySem.SeqAt.eq_plain r1 r2 p1 hz.2 (by omega) ⟨.bl _, H, I, rfl, q⟩
  · cases e
theorem notO_some {o : Option Bool} {b : Bool} (h : notO o = some b) : ∃ c, o = some c ∧ b = !c := by
  cases o with
  | none => cases h
  | some c => exact ⟨c, rfl, (Option.some.inj h).symm⟩
theorem op_neP (hu : X.A.units + 64 < cLine) : OpR X (compareOp .NotEq) (rCmp X.K fun x y => notO (eqD x y)) := by
  intro pins s σ H x y v u Q I rx ry h
  obtain ⟨Hf, dx, dy, b, f, hx, hy, e, q⟩ := h
  obtain ⟨c, e2, rfl⟩ := notO_some e
  clear e
  unfold eqD at e2
  split at e2
  · rename_i hz
    rw [Bool.and_eq_true] at hz
    obtain ⟨p1, p2⟩ := okD_of hz.1
    cases e2
    obtain ⟨as, r1⟩ := Rp.reads I dx x v p1 (hx.rp f) rx
    obtain ⟨bs, r2⟩ := Rp.reads I dy y u hz.2 (hy.rp f) ry
    have hm := Nat.min_le_left dx.depth dy.depth
    exact PySem.SeqAt.ne_plain r1 r2 p1 hz.2 (by omega) ⟨.bl _, H, I, rfl, q⟩
  · cases e2
/-! order -/
theorem isNone_ne {d : D} (h : (!isNone d) = true) : d ≠ .none := fun e => by subst e; cases h
/-- the four orders at once -/
theorem op_ordP {op : CmpOp} {f : D → D → Bool} {g : D → D → Option Bool} (hu : X.A.units + 64 < cLine)
    (hg : ∀ x y b, g x y = some b → okD x = true ∧ y.plain = true ∧ PySem.W.alike x y = true ∧ (!isNone x) = true ∧ b = f x y)
    (rule : ∀ {A : Around} {E : Value → Shared → Prop} {s : Shared} {a b : Value} {da db : D} {as bs : List Addr} {Q : Value → Shared → Prop}, Reads s.heap a da as → Reads s.heap b db bs → PySem.W.alike da db = true → da ≠ .none → A.units + min da.depth db.depth < cLine → Q (.bool (f da db)) s →
      wpAny (model X.prog X.w) A (compareOp op a b) Q E s) : OpR X (compareOp op) (rCmp X.K g) := by
  intro pins s σ H x y v u Q I rx ry h
  obtain ⟨Hf, dx, dy, b, f', hx, hy, e, q⟩ := h
  obtain ⟨h1, h2, h3, h4, rfl⟩ := hg _ _ _ e
  obtain ⟨p1, p2⟩ := okD_of h1
  obtain ⟨as, r1⟩ := Rp.reads I dx x v p1 (hx.rp f') rx
  obtain ⟨bs, r2⟩ := Rp.reads I dy y u h2 (hy.rp f') ry
  have hm := Nat.min_le_left dx.depth dy.depth
  exact rule r1 r2 h3 (isNone_ne h4) (by omega) ⟨.bl _, H, I, rfl, q⟩
theorem ltD_some {x y : D} {b : Bool} (h : ltD x y = some b) : okD x = true ∧ y.plain = true ∧ PySem.W.alike x y = true ∧ (!isNone x) = true ∧ b = PySem.W.dataLt x y := by
  unfold ltD at h
  split at h
  · rename_i hz
    simp only [Bool.and_eq_true] at hz
    exact ⟨hz.1.1.1, hz.1.1.2, hz.1.2, hz.2, (Option.some.inj h).symm⟩
  · cases h
theorem gtD_some {x y : D} {b : Bool} (h : gtD x y = some b) : okD x = true ∧ y.plain = true ∧ PySem.W.alike x y = true ∧ (!isNone x) = true ∧ b = PySem.W.dataLt y x := by
  unfold gtD at h
  split at h
  · rename_i hz
    simp only [Bool.and_eq_true] at hz
    exact ⟨hz.1.1.1, hz.1.1.2, hz.1.2, hz.2, (Option.some.inj h).symm⟩
  · cases h
theorem op_ltP (hu : X.A.units + 64 < cLine) : OpR X (compareOp .Lt) (rCmp X.K ltD) := op_ordP hu (fun _ _ _ h => ltD_some h) fun a b c d e f => PySem.W.lt_data a b c d e f
theorem op_gtP (hu : X.A.units + 64 < cLine) : OpR X (compareOp .Gt) (rCmp X.K gtD) := op_ordP hu (fun _ _ _ h => gtD_some h) fun a b c d e f => PySem.W.gt_data a b c d e f
theorem op_leP (hu : X.A.units + 64 < cLine) : OpR X (compareOp .LtE) (rCmp X.K fun x y => notO (gtD x y)) := op_ordP hu (fun _ _ _ h => by
  obtain ⟨c, e, rfl⟩ := notO_some h
  obtain ⟨a, b, c, d, rfl⟩ := gtD_some e
  exact ⟨a, b, c, d, rfl⟩) fun a b c d e f => PySem.W.le_data a b c d e f
theorem op_geP (hu : X.A.units + 64 < cLine) : OpR X (compareOp .GtE) (rCmp X.K fun x y => notO (ltD x y)) := op_ordP hu (fun _ _ _ h => by
  obtain ⟨c, e, rfl⟩ := notO_some h
  obtain ⟨a, b, c, d, rfl⟩ := ltD_some e
  exact ⟨a, b, c, d, rfl⟩) fun a b c d e f => PySem.W.ge_data a b c d e f

/-! membership -/
def kD : Key → D
  | .inl i => .int i
  | .inr x => .str x
theorem kD_rp {Hf : Hp} {k : Key} {d : D} (h : Rp K Hf (kV k) d) : d = kD k := by
  cases k with
  | inl i => cases h; rfl
  | inr x => cases h; rfl
theorem eqv_kD (a b : Key) : eqv (kD a) (kD b) = decide (a = b) := by
  cases a with
  | inl i =>
    cases b with
    | inl j =>
      show (i == j) = _
      rw [key_ll]
    | inr y => rw [key_lr]; rfl
  | inr x =>
    cases b with
    | inl j => rw [key_rl]; rfl
    | inr y =>
      show (x == y) = _
      rw [key_rr]; rfl
theorem look_kv {Hf : Hp} (k : Key) : ∀ {ks : List (Key × V)} {ds : List (D × D)}, RpKv K Hf (ks.map fun kv => (kV kv.1, kv.2)) ds →
    (valV ks k = none ∧ lookD (kD k) ds = none) ∨ ∃ v d, valV ks k = some v ∧ lookD (kD k) ds = some d ∧ Rp K Hf v d
  | [], _, h => by cases h; exact .inl ⟨rfl, rfl⟩
  | (k', v) :: ks, _, h => by
    cases h with
    | @cons _ _ _ dk d ds hk hv r =>
      have e := kD_rp hk
      subst e
      by_cases q : k' = k
      · subst q
        refine .inr ⟨v, d, valV_pos rfl, ?_, hv⟩
        unfold lookD
        rw [eqv_kD, if_pos (by simp)]
      · rw [valV_neg q]
        unfold lookD
        rw [eqv_kD, decide_eq_false q, if_neg (by decide)]
        exact look_kv k r
theorem inD_list (x : D) (ys : List D) : inD x (.list ys) = if okD x && PyData.plainAll ys then some (ys.any fun y => eqv y x) else none := rfl
theorem inD_tuple (x : D) (ys : List D) : inD x (.tuple ys) = if okD x && PyData.plainAll ys then some (ys.any fun y => eqv y x) else none := rfl
theorem inD_dict {x : D} {kvs : List (D × D)} {b : Bool} (h : inD x (.dict kvs) = some b) : ∃ k, x = kD k ∧ b = (lookD (kD k) kvs).isSome := by
  cases x with
  | str z => exact ⟨.inr z, rfl, (Option.some.inj h).symm⟩
  | int i => exact ⟨.inl i, rfl, (Option.some.inj h).symm⟩
  | none => cases h
  | bool _ => cases h
  | list _ => cases h
  | tuple _ => cases h
  | dict _ => cases h
/-- y in d, both ways -/
theorem in_gen {op : CmpOp} {neg : Bool} (hu : X.A.units + 66 < cLine)
    (rl : ∀ {A : Around} {E : Value → Shared → Prop} {s : Shared} {c x : Value} {xs : List D} {d : D} {as bs : List Addr} {Q : Value → Shared → Prop}, Reads s.heap c (.list xs) as → Reads s.heap x d bs → PyData.plainAll xs = true → d.plain = true → A.units + 1 + min (PyData.depthAll xs) d.depth < cLine → Q (.bool (neg ^^ xs.any fun y => PyData.eqv y d)) s → wpAny (model X.prog X.w) A (compareOp op x c) Q E s)
    (rt : ∀ {A : Around} {E : Value → Shared → Prop} {s : Shared} {c x : Value} {xs : List D} {d : D} {as bs : List Addr} {Q : Value → Shared → Prop}, Reads s.heap c (.tuple xs) as → Reads s.heap x d bs → PyData.plainAll xs = true → d.plain = true → A.units + 1 + min (PyData.depthAll xs) d.depth < cLine → Q (.bool (neg ^^ xs.any fun y => PyData.eqv y d)) s → wpAny (model X.prog X.w) A (compareOp op x c) Q E s)
    (rs : OpR X (compareOp op) (fun x y H Q => ∃ i j, x = .str i ∧ y = .str j ∧ Q (.bl (neg ^^ !(Builtin.Str.occurrences j i 0 j.length 1).isEmpty)) H))
    (rd : ∀ {pins : List (Addr × Obj)} {s : Shared} {σ : L2.St} {H : Hp} {a : Addr} {y : V} {o : Option V} {u : Value} {Q : Value → Shared → Prop}, Inv X pins σ H s → DGet H a y o → RelV y u → (∀ s', Inv X pins σ H s' → Q (.bool (neg ^^ o.isSome)) s') → wpAny (model X.prog X.w) X.A (compareOp op u (.ref a)) Q X.xe s) :
    OpR X (compareOp op) (fun x y H Q => ∃ Hf dx dy b, Same Hf H ∧ Rx X.K Hf H x dx ∧ Rx X.K Hf H y dy ∧ inD dx dy = some b ∧ Q (.bl (neg ^^ b)) H) := by
  intro pins s σ H x y v u Q I rx ry h
  obtain ⟨Hf, dx, dy, b, f, hx, hy, e, q⟩ := h
  cases dy with
  | list ys =>
    rw [inD_list] at e
    split at e
    · rename_i hz
      rw [Bool.and_eq_true] at hz
      obtain ⟨p1, p2⟩ := okD_of hz.1
      cases e
      obtain ⟨as, r1⟩ := Rp.reads I dx x v p1 (hx.rp f) rx
      obtain ⟨bs, r2⟩ := Rp.reads I (.list ys) y u (by simpa [PyData.plain] using hz.2) (hy.rp f) ry
      have hm := Nat.min_le_right (PyData.depthAll ys) dx.depth
      exact rl r2 r1 hz.2 p1 (by omega) ⟨.bl _, H, I, rfl, q⟩
    · cases e
  | tuple ys =>
    rw [inD_tuple] at e
    split at e
    · rename_i hz
      rw [Bool.and_eq_true] at hz
      obtain ⟨p1, p2⟩ := okD_of hz.1
      cases e
      obtain ⟨as, r1⟩ := Rp.reads I dx x v p1 (hx.rp f) rx
      obtain ⟨bs, r2⟩ := Rp.reads I (.tuple ys) y u (by simpa [PyData.plain] using hz.2) (hy.rp f) ry
      have hm := Nat.min_le_right (PyData.depthAll ys) dx.depth
      exact rt r2 r1 hz.2 p1 (by omega) ⟨.bl _, H, I, rfl, q⟩
    · cases e
  | str z =>
    cases dx with
    | str z' =>
      cases e
      exact rs pins s σ H x y v u Q I rx ry ⟨z', z, hx.str, hy.str, q⟩
    | none => cases e
    | bool _ => cases e
    | int _ => cases e
    | list _ => cases e
    | tuple _ => cases e
    | dict _ => cases e
  | dict kvs =>
    obtain ⟨k, rfl, rfl⟩ := inD_dict e
    obtain ⟨a, ps, rfl, ⟨ks, hr, rfl⟩, r⟩ := hy.dict f
    cases ry
    have ex : x = kV k := by
      cases k with
      | inl i => exact hx.int
      | inr z => exact hx.str
    subst ex
    refine rd I (o := valV ks k) (.inl ⟨ks, k, hr, rfl, rfl⟩) rx fun s' I' => ⟨.bl _, H, I', rfl, ?_⟩
    rcases look_kv k r with ⟨e1, e2⟩ | ⟨v', d', e1, e2, _⟩ <;> (rw [e1]; rw [e2] at q; exact q)
  | none => cases e
  | bool _ => cases e
  | int _ => cases e
theorem op_inP (hu : X.A.units + 66 < cLine) : OpR X (compareOp .In) (rCmp X.K inD) := by
  intro pins s σ H x y v u Q I rx ry ⟨Hf, dx, dy, b, f, hx, hy, e, q⟩
  refine in_gen (neg := false) hu (fun a b c d e q => PySem.SeqAt.in_list_data a b c d e (by simpa using q)) (fun a b c d e q => PySem.SeqAt.in_tuple_data a b c d e (by simpa using q)) (fun pins s σ H x y v u Q I rx ry ⟨i, j, e1, e2, q⟩ => op_in_str pins s σ H x y v u Q I rx ry ⟨i, j, e1, e2, by simpa using q⟩)
    (fun I g r q => d_in (by omega) I g r fun s' I' => by simpa using q s' I') pins s σ H x y v u Q I rx ry ⟨Hf, dx, dy, b, f, hx, hy, e, by simpa using q⟩
theorem op_notInP (hu : X.A.units + 66 < cLine) : OpR X (compareOp .NotIn) (rCmp X.K fun x y => notO (inD x y)) := by
  intro pins s σ H x y v u Q I rx ry ⟨Hf, dx, dy, b, f, hx, hy, e2, q⟩
  obtain ⟨c, e, rfl⟩ := notO_some e2
  refine in_gen (neg := true) hu (fun a b c d e q => PySem.SeqAt.notIn_list_data a b c d e (by simpa using q)) (fun a b c d e q => PySem.SeqAt.notIn_tuple_data a b c d e (by simpa using q)) (fun pins s σ H x y v u Q I rx ry ⟨i, j, e1, e2, q⟩ => op_notin_str pins s σ H x y v u Q I rx ry ⟨i, j, e1, e2, by simpa using q⟩)
    (fun I g r q => d_notIn (by omega) I g r fun s' I' => by simpa using q s' I') pins s σ H x y v u Q I rx ry ⟨Hf, dx, dy, c, f, hx, hy, e, by simpa using q⟩
end
end DV

namespace DV
open PySem PySem.Spec PyProof.Rows L2
section
variable {X : Cx} {K : PySem.W.Frag} {Hf H : Hp} {Q : VK}

/-! ### truth -/
theorem truthD_str (x : Str) : truthD (.str x) = if fits x.length then some (decide (0 < x.length)) else none := rfl
theorem tru_D : TruR X (fun x H Q => ∃ Hf dx b, Same Hf H ∧ Rx X.K Hf H x dx ∧ truthD dx = some b ∧ Q b H) := by
  intro pins s σ H x v Q I rx h
  obtain ⟨Hf, dx, b, f, hx, e, q⟩ := h
  have e0 := hx.rp f
  cases dx with
  | none => cases e; cases hx.none; exact tru_ok pins s σ H _ v Q I rx ⟨_, rfl, q⟩
  | bool k => cases e; cases hx.bool; exact tru_ok pins s σ H _ v Q I rx ⟨_, rfl, q⟩
  | int i => cases e; cases hx.int; exact tru_ok pins s σ H _ v Q I rx ⟨_, rfl, q⟩
  | str z =>
    rw [truthD_str] at e
    split at e
    · rename_i hz
      cases e
      cases hx.str
      refine tru_ok pins s σ H _ v Q I rx ⟨_, ⟨fits_le hz, rfl⟩, ?_⟩
      have : decide (0 < z.length) = ((z.length : Int) != 0) := by
        by_cases h0 : 0 < z.length
        · rw [decide_eq_true h0]
          exact (bne_iff_ne.mpr (by omega)).symm
        · have : z.length = 0 := by omega
          rw [this]; rfl
      rw [← this]
      exact q
    · cases e
  | list ds =>
    cases e
    obtain ⟨a, xs, rfl, ha, r⟩ := hx.list f
    refine tru_ok pins s σ H _ v Q I rx ⟨_, .inl ⟨xs, ha, rfl⟩, ?_⟩
    cases r <;> exact q
  | tuple ds =>
    cases e
    obtain ⟨a, xs, rfl, _, ha, r⟩ := hx.tuple f
    refine tru_ok pins s σ H _ v Q I rx ⟨_, .inr (.inl ⟨xs, ha, rfl⟩), ?_⟩
    cases r <;> exact q
  | dict ds =>
    cases e
    obtain ⟨a, ps, rfl, ⟨ks, hr, rfl⟩, r⟩ := hx.dict f
    cases rx
    obtain ⟨hz, hS, vs, rv, m⟩ := dk_rd I.hok hr
    have hlen : ks.length = vs.length := Paired.length rv
    have line := line63
    refine wpAny_truthy_dict hS m (by omega) ⟨H, I.tok _, ?_⟩
    have : (!vs.isEmpty) = !ds.isEmpty := by
      cases ks with
      | nil => cases r; cases rv; rfl
      | cons k ks => cases r; cases rv; rfl
    rw [this]
    exact q

/-! ### subscripts -/
theorem atI_rp {xs : List V} {ds : List D} {i : Int} {d : D} (r : RpAll K Hf xs ds) (h : atI ds i = some d) : ∃ v, atI xs i = some v ∧ Rp K Hf v d := by
  unfold atI at h ⊢
  rw [r.length]
  cases e : ixN ds.length i with
  | none => rw [e] at h; cases h
  | some j =>
    rw [e] at h
    obtain ⟨v, hv, q⟩ := r.get (i := j) h
    exact ⟨v, hv, q⟩
theorem ix_dk : IxR X (fun x y H Q => ∃ a v, x = .ref a ∧ X.A.units + 1 < cLine ∧ DGet H a y (some v) ∧ Q v H) := by
  intro value slice pins s σ H x y v u Q I rx ry h hs
  obtain ⟨a, z, rfl, hu, g, q⟩ := h
  cases rx
  exact tail_any (dict_typeIs I g) slot_dict_getitem.lookup (d_getItem hu I g ry fun w' s' I' r' => ⟨z, H, I', r', q⟩) hs
theorem ix_D (hu : X.A.units + 1 < cLine) : IxR X (rPrim X.K idxD) := by
  intro value slice pins s σ H x y v u Q I rx ry h hs
  obtain ⟨Hf, dx, dy, f, hx, hy, h⟩ := h
  unfold idxD at h
  split at h
  · split at h
    · rename_i d e
      obtain ⟨a, xs, rfl, ha, r⟩ := hx.list f
      obtain ⟨z, e', rz⟩ := atI_rp r e
      exact ix_list value slice pins s σ H _ y v u Q I rx ry ⟨a, xs, _, z, rfl, hy.int, ha, e', h.dat f rz⟩ hs
    · exact h.elim
  · split at h
    · rename_i d e
      obtain ⟨a, xs, rfl, _, ha, r⟩ := hx.tuple f
      obtain ⟨z, e', rz⟩ := atI_rp r e
      exact ix_tup value slice pins s σ H _ y v u Q I rx ry ⟨a, xs, _, z, rfl, hy.int, ha, e', h.dat f rz⟩ hs
    · exact h.elim
  · split at h
    · rename_i c e
      split at h
      · rename_i hz
        exact ix_str value slice pins s σ H x y v u Q I rx ry ⟨_, _, c, hx.str, hy.int, fits_le hz, e, h.dat f (.str _)⟩ hs
      · exact h.elim
    · exact h.elim
  · split at h
    · rename_i kvs z _ d e
      obtain ⟨a, ps, rfl, ⟨ks, hr, rfl⟩, r⟩ := hx.dict f
      cases hy.str
      rcases look_kv (.inr z) r with ⟨e1, e2⟩ | ⟨v', d', e1, e2, rz⟩
      · rw [show lookD (kD (.inr z)) kvs = some d from e] at e2; cases e2
      · rw [show lookD (kD (.inr z)) kvs = some d from e] at e2; cases e2
        exact ix_dk value slice pins s σ H _ _ v u Q I rx ry ⟨a, v', rfl, hu, .inl ⟨ks, .inr z, hr, rfl, e1.symm⟩, h.dat f rz⟩ hs
    · exact h.elim
  · split at h
    · rename_i kvs z _ d e
      obtain ⟨a, ps, rfl, ⟨ks, hr, rfl⟩, r⟩ := hx.dict f
      cases hy.int
      rcases look_kv (.inl z) r with ⟨e1, e2⟩ | ⟨v', d', e1, e2, rz⟩
      · rw [show lookD (kD (.inl z)) kvs = some d from e] at e2; cases e2
      · rw [show lookD (kD (.inl z)) kvs = some d from e] at e2; cases e2
        exact ix_dk value slice pins s σ H _ _ v u Q I rx ry ⟨a, v', rfl, hu, .inl ⟨ks, .inl z, hr, rfl, e1.symm⟩, h.dat f rz⟩ hs
    · exact h.elim
  · exact h.elim

/-! ### slices -/
theorem cut_rp {xs : List V} {ds : List D} (r : RpAll K Hf xs ds) (lo hi : Option Int) : RpAll K Hf (cutV xs lo hi) (cutL ds lo hi) := by
  unfold cutV cutL
  rw [r.length]
  exact (r.drop _).take _
theorem sl_D : SlR X (fun x lo hi H Q => ∃ Hf dx, Same Hf H ∧ Rx X.K Hf H x dx ∧ Prim X.K Hf H (sliceD dx lo hi) Q) := by
  intro pins s σ H x v vl vu lo hi sl Q I rx hs pl pu h
  obtain ⟨Hf, dx, f, hx, h⟩ := h
  unfold sliceD at h
  split at h
  · obtain ⟨a, xs, rfl, ha, r⟩ := hx.list f
    exact sl_list pins s σ H _ v vl vu _ _ sl Q I rx hs pl pu ⟨a, xs, rfl, ha, fun p n => h.newList f n (cut_rp r _ _)⟩
  · rename_i ds
    obtain ⟨a, xs, rfl, ka, ha, r⟩ := hx.tuple f
    refine sl_tupA pins s σ H _ v vl vu _ _ sl Q I rx hs pl pu ⟨a, xs, rfl, ha, fun e => ?_, fun _ p n => h.newTup f n (cut_rp r _ _)⟩
    have : cutL ds lo hi = ds := by
      unfold cutL
      rw [← r.length, e.1, e.2, List.drop_zero, Nat.sub_zero, r.length, List.take_length]
    rw [this] at h
    exact h.dat f (.tup ka r)
  · split at h
    · rename_i hz
      exact sl_str pins s σ H x v vl vu _ _ sl Q I rx hs pl pu ⟨_, hx.str, fits_le hz, h.dat f (.str _)⟩
    · exact h.elim
  · exact h.elim

/-! ### isinstance -/
def tyN : Ty → String
  | .int => "int"
  | .bool => "bool"
  | .str => "str"
  | .list => "list"
  | .tuple => "tuple"
def tyOfD : D → String
  | .none => "NoneType"
  | .bool _ => "bool"
  | .int _ => "int"
  | .str _ => "str"
  | .list _ => "list"
  | .tuple _ => "tuple"
  | .dict _ => "dict"
theorem tyX_of {d : D} {x : V} (h : Rp K H x d) : ∃ t, TyX K H x (.type t) ∧ t = tyOfD d := by
  cases h with
  | non => exact ⟨_, .base .non, rfl⟩
  | bl b => exact ⟨_, .base (.bl b), rfl⟩
  | int i => exact ⟨_, .base (.int i), rfl⟩
  | str z => exact ⟨_, .base (.str z), rfl⟩
  | lst q r =>
    rcases q with (q | ⟨o, q⟩) | ⟨o, its, n, hk, hc, _⟩
    · exact ⟨_, .base (.lst q), rfl⟩
    · exact ⟨_, .base (.frz q), rfl⟩
    · exact ⟨_, .kList hk hc, rfl⟩
  | tup q r =>
    rcases q with (q | ⟨o, q⟩) | ⟨o, its, n, hk, hc, _⟩
    · exact ⟨_, .base (.tup q), rfl⟩
    · exact ⟨_, .fTuple q, rfl⟩
    · exact ⟨_, .kTuple hk hc, rfl⟩
  | dct q r =>
    obtain ⟨ks, q | ⟨o, q⟩, rfl⟩ := q
    · exact ⟨_, .base (.dK q), rfl⟩
    · exact ⟨_, .fDict q, rfl⟩
theorem kit_all (t : Ty) (d : D) : kitB (tyOfD d) (tyN t) = some (isiD t d) := by
  cases t <;> cases d <;> (dsimp only [tyN, isiD, tyOfD]; decide +kernel)
theorem call_isiD (t : Ty) : CallR X (.builtin "isinstance") (fun xs H Q => ∃ Hf x dx, xs = [x, .ty (tyN t)] ∧ Same Hf H ∧ Rx X.K Hf H x dx ∧ Q (.bl (isiD t dx)) H) := by
  intro pins s σ H xs us Q I r h
  obtain ⟨Hf, x, dx, rfl, f, hx, q⟩ := h
  obtain ⟨n, ty, rfl⟩ := tyX_of (hx.rp f)
  exact call_isi pins s σ H _ us Q I r ⟨x, _, _, _, _, rfl, .ty _, ty, kit_ty (kit_all t dx), q⟩

/-! ### built-ins that are called -/
/-- a rule for a call by data -/
def rBf (K : PySem.W.Frag) (f : List D → Option EV) : List V → Hp → VK → Prop := fun xs H Q => ∃ Hf ds, Same Hf H ∧ RxAll K Hf H xs ds ∧ Prim K Hf H (f ds) Q
theorem rx1 {xs : List V} {d : D} (h : RxAll K Hf H xs [d]) : ∃ x, xs = [x] ∧ Rx K Hf H x d := by
  cases h with
  | cons a b => cases b; exact ⟨_, rfl, a⟩
theorem bf_len {ds : List D} {Q : VK} (h : Prim K Hf H (bfD .len ds) Q) : ∃ d, ds = [d] ∧ Prim K Hf H (lenD d) Q := by
  cases ds with
  | nil => exact h.elim
  | cons d r =>
    cases r with
    | nil => exact ⟨d, rfl, h⟩
    | cons _ _ => exact h.elim
theorem rpKv_len {ks : List (Key × V)} : ∀ {ds : List (D × D)}, RpKv K Hf (ks.map fun kv => (kV kv.1, kv.2)) ds → ks.length = ds.length := by
  induction ks with
  | nil => intro ds h; cases h; rfl
  | cons k ks ih =>
    intro ds h
    cases h with
    | cons _ _ r => exact congrArg (· + 1) (ih r)
theorem call_lenD : CallR X (.builtin "len") (rBf X.K (bfD .len)) := by
  intro pins s σ H xs us Q I r h
  obtain ⟨Hf, ds, f, hx, h⟩ := h
  obtain ⟨d, rfl, h2⟩ := bf_len h
  obtain ⟨x, rfl, hx2⟩ := rx1 hx
  clear h hx
  cases d with
  | list ds =>
    obtain ⟨a, ys, rfl, ha, rr⟩ := hx2.list f
    refine call_len_seq pins s σ H _ us Q I r ⟨a, ys, rfl, .inl ha, ?_⟩
    rw [rr.length]
    exact Prim.dat h2 f (.int _)
  | tuple ds =>
    obtain ⟨a, ys, rfl, _, ha, rr⟩ := hx2.tuple f
    refine call_len_seq pins s σ H _ us Q I r ⟨a, ys, rfl, .inr ha, ?_⟩
    rw [rr.length]
    exact Prim.dat h2 f (.int _)
  | str z =>
    by_cases hz : fits z.length = true
    · rw [show lenD (.str z) = some (.dat (.int z.length)) from if_pos hz] at h2
      cases hx2.str
      exact call_len_str pins s σ H _ us Q I r ⟨_, rfl, fits_le hz, h2.dat f (.int _)⟩
    · rw [show lenD (.str z) = none from if_neg hz] at h2
      exact h2.elim
  | dict ds =>
    obtain ⟨a, ps, rfl, ⟨ks, hr, rfl⟩, rr⟩ := hx2.dict f
    obtain ⟨u, rfl, ru⟩ := vals1 r
    cases ru
    refine d_len I hr fun t s' I' => ⟨.int ks.length, H, I', ⟨t, rfl⟩, ?_⟩
    rw [rpKv_len rr]
    exact Prim.dat h2 f (.int _)
  | none => exact h2.elim
  | bool _ => exact h2.elim
  | int _ => exact h2.elim
end
end DV

namespace DV
open PySem PySem.Spec PyProof.Rows L2
section
variable {X : Cx} {K : PySem.W.Frag} {Hf H : Hp} {Q : VK}
theorem bools_rp : ∀ {ds : List D} {bs : List Bool} {xs : List V}, boolsOf ds = some bs → RpAll K Hf xs ds → xs = bs.map V.bl
  | [], bs, _, h, r => by cases h; cases r; rfl
  | d :: ds, bs, _, h, r => by
    cases d with
    | bool b =>
      cases e : boolsOf ds with
      | none => simp [boolsOf, e] at h
      | some cs =>
        have h' : some (b :: cs) = some bs := by simpa [boolsOf, e] using h
        cases h'
        cases r with
        | cons a t => cases a; rw [bools_rp e t]; rfl
    | none => cases h
    | int _ => cases h
    | str _ => cases h
    | list _ => cases h
    | tuple _ => cases h
    | dict _ => cases h
theorem ints_rp : ∀ {ds : List D} {bs : List Int} {xs : List V}, intsOf ds = some bs → RpAll K Hf xs ds → xs = bs.map V.int
  | [], bs, _, h, r => by cases h; cases r; rfl
  | d :: ds, bs, _, h, r => by
    cases d with
    | int b =>
      cases e : intsOf ds with
      | none => simp [intsOf, e] at h
      | some cs =>
        have h' : some (b :: cs) = some bs := by simpa [intsOf, e] using h
        cases h'
        cases r with
        | cons a t => cases a; rw [ints_rp e t]; rfl
    | none => cases h
    | bool _ => cases h
    | str _ => cases h
    | list _ => cases h
    | tuple _ => cases h
    | dict _ => cases h
/-- the value that a built-in's name stands for -/
def bfV : Bf → Value
  | .len => .builtin "len"
  | .abs => .builtin "abs"
  | .all => .builtin "all"
  | .any => .builtin "any"
  | .list => .type "list"
  | .tuple => .type "tuple"
  | .int => .type "int"
  | .sum => .builtin "sum"
theorem one_of {g : D → Option EV} {b : Bf} (h0 : bfD b [] = none) (h2 : ∀ x y r, bfD b (x :: y :: r) = none) (h1 : ∀ x, bfD b [x] = g x) {ds : List D} (h : Prim K Hf H (bfD b ds) Q) : ∃ d, ds = [d] ∧ Prim K Hf H (g d) Q := by
  cases ds with
  | nil => rw [h0] at h; exact h.elim
  | cons d r =>
    cases r with
    | nil => rw [h1] at h; exact ⟨d, rfl, h⟩
    | cons _ _ => rw [h2] at h; exact h.elim
theorem call_bf (hc : X.calm = true) (b : Bf) : CallR X (bfV b) (rBf X.K (bfD b)) := by
  intro pins s σ H xs us Q I r h
  cases b with
  | len => exact call_lenD pins s σ H xs us Q I r h
  | abs =>
    obtain ⟨Hf, ds, f, hx, h⟩ := h
    obtain ⟨d, e, h2⟩ := one_of (g := fun d => bfD .abs [d]) rfl (fun x _ _ => by cases x <;> rfl) (fun _ => rfl) h
    subst e
    obtain ⟨x, e, hx2⟩ := rx1 hx
    subst e
    cases d with
    | int i => cases hx2.int; exact call_abs pins s σ H _ us Q I r ⟨_, rfl, Prim.dat h2 f (.int _)⟩
    | none => exact h2.elim
    | bool _ => exact h2.elim
    | str _ => exact h2.elim
    | list _ => exact h2.elim
    | tuple _ => exact h2.elim
    | dict _ => exact h2.elim
  | all =>
    obtain ⟨Hf, ds, f, hx, h⟩ := h
    obtain ⟨d, e, h2⟩ := one_of (g := fun d => bfD .all [d]) rfl (fun x _ _ => by cases x <;> rfl) (fun _ => rfl) h
    subst e
    obtain ⟨x, e, hx2⟩ := rx1 hx
    subst e
    cases d with
    | list ds =>
      obtain ⟨a, ys, rfl, ha, rr⟩ := hx2.list f
      cases e : boolsOf ds with
      | none => rw [show bfD .all [.list ds] = (match boolsOf ds with | some bs => some (.dat (.bool (bs.all id))) | none => none) from rfl, e] at h2; exact h2.elim
      | some bs =>
        rw [show bfD .all [.list ds] = (match boolsOf ds with | some bs => some (.dat (.bool (bs.all id))) | none => none) from rfl, e] at h2
        have := bools_rp e rr
        subst this
        exact cr_all hc pins s σ H _ us Q I r ⟨a, bs, rfl, ha, Prim.dat h2 f (.bl _)⟩
    | none => exact h2.elim
    | bool _ => exact h2.elim
    | str _ => exact h2.elim
    | int _ => exact h2.elim
    | tuple _ => exact h2.elim
    | dict _ => exact h2.elim
  | any =>
    obtain ⟨Hf, ds, f, hx, h⟩ := h
    obtain ⟨d, e, h2⟩ := one_of (g := fun d => bfD .any [d]) rfl (fun x _ _ => by cases x <;> rfl) (fun _ => rfl) h
    subst e
    obtain ⟨x, e, hx2⟩ := rx1 hx
    subst e
    cases d with
    | list ds =>
      obtain ⟨a, ys, rfl, ha, rr⟩ := hx2.list f
      cases e : boolsOf ds with
      | none => rw [show bfD .any [.list ds] = (match boolsOf ds with | some bs => some (.dat (.bool (bs.any id))) | none => none) from rfl, e] at h2; exact h2.elim
      | some bs =>
        rw [show bfD .any [.list ds] = (match boolsOf ds with | some bs => some (.dat (.bool (bs.any id))) | none => none) from rfl, e] at h2
        have := bools_rp e rr
        subst this
        exact cr_any hc pins s σ H _ us Q I r ⟨a, bs, rfl, ha, Prim.dat h2 f (.bl _)⟩
    | none => exact h2.elim
    | bool _ => exact h2.elim
    | str _ => exact h2.elim
    | int _ => exact h2.elim
    | tuple _ => exact h2.elim
    | dict _ => exact h2.elim
  | list =>
    obtain ⟨Hf, ds, f, hx, h⟩ := h
    obtain ⟨d, e, h2⟩ := one_of (g := fun d => bfD .list [d]) rfl (fun x _ _ => by cases x <;> rfl) (fun _ => rfl) h
    subst e
    obtain ⟨x, e, hx2⟩ := rx1 hx
    subst e
    cases d with
    | list ds =>
      obtain ⟨a, ys, rfl, ha, rr⟩ := hx2.list f
      exact call_list_of pins s σ H _ us Q I r ⟨a, ys, rfl, .inl ha, fun p n => Prim.newList h2 f n rr⟩
    | tuple ds =>
      obtain ⟨a, ys, rfl, _, ha, rr⟩ := hx2.tuple f
      exact call_list_of pins s σ H _ us Q I r ⟨a, ys, rfl, .inr ha, fun p n => Prim.newList h2 f n rr⟩
    | none => exact h2.elim
    | bool _ => exact h2.elim
    | str _ => exact h2.elim
    | int _ => exact h2.elim
    | dict _ => exact h2.elim
  | tuple =>
    obtain ⟨Hf, ds, f, hx, h⟩ := h
    obtain ⟨d, e, h2⟩ := one_of (g := fun d => bfD .tuple [d]) rfl (fun x _ _ => by cases x <;> rfl) (fun _ => rfl) h
    subst e
    obtain ⟨x, e, hx2⟩ := rx1 hx
    subst e
    cases d with
    | list ds =>
      obtain ⟨a, ys, rfl, ha, rr⟩ := hx2.list f
      exact call_tuple_of pins s σ H _ us Q I r ⟨a, ys, rfl, .inl ⟨ha, fun p n => Prim.newTup h2 f n rr⟩⟩
    | tuple ds =>
      obtain ⟨a, ys, rfl, ka, ha, rr⟩ := hx2.tuple f
      exact call_tuple_of pins s σ H _ us Q I r ⟨a, ys, rfl, .inr ⟨ha, Prim.dat h2 f (.tup ka rr)⟩⟩
    | none => exact h2.elim
    | bool _ => exact h2.elim
    | str _ => exact h2.elim
    | int _ => exact h2.elim
    | dict _ => exact h2.elim
  | int =>
    obtain ⟨Hf, ds, f, hx, h⟩ := h
    obtain ⟨d, e, h2⟩ := one_of (g := fun d => bfD .int [d]) rfl (fun x _ _ => by cases x <;> rfl) (fun _ => rfl) h
    subst e
    obtain ⟨x, e, hx2⟩ := rx1 hx
    subst e
    cases d with
    | int i => cases hx2.int; exact call_int1 pins s σ H _ us Q I r (.inl ⟨_, rfl, Prim.dat h2 f (.int _)⟩)
    | bool i => cases hx2.bool; exact call_int1 pins s σ H _ us Q I r (.inr ⟨_, rfl, Prim.dat h2 f (.int _)⟩)
    | none => exact h2.elim
    | str _ => exact h2.elim
    | list _ => exact h2.elim
    | tuple _ => exact h2.elim
    | dict _ => exact h2.elim
  | sum =>
    obtain ⟨Hf, ds, f, hx, h⟩ := h
    obtain ⟨d, e, h2⟩ := one_of (g := fun d => bfD .sum [d]) rfl (fun x _ _ => by cases x <;> rfl) (fun _ => rfl) h
    subst e
    obtain ⟨x, e, hx2⟩ := rx1 hx
    subst e
    cases d with
    | list ds =>
      obtain ⟨a, ys, rfl, ha, rr⟩ := hx2.list f
      cases e : intsOf ds with
      | none => rw [show bfD .sum [.list ds] = (match intsOf ds with | some bs => some (.dat (.int bs.sum)) | none => none) from rfl, e] at h2; exact h2.elim
      | some bs =>
        rw [show bfD .sum [.list ds] = (match intsOf ds with | some bs => some (.dat (.int bs.sum)) | none => none) from rfl, e] at h2
        have := ints_rp e rr
        subst this
        exact cr_sum hc pins s σ H _ us Q I r ⟨a, bs, rfl, ha, Prim.dat h2 f (.int _)⟩
    | none => exact h2.elim
    | bool _ => exact h2.elim
    | str _ => exact h2.elim
    | int _ => exact h2.elim
    | tuple _ => exact h2.elim
    | dict _ => exact h2.elim
end

/-! ### expressions -/
/-- two readings of which one is stronger -/
theorem PE.imp {X : Cx} {e : Expr} {t t' : TE} (h : PE X e t) (i : ∀ σ H Q, t' σ H Q → t σ H Q) : PE X e t' := ⟨fun pins s σ H Q I q => h.run pins s σ H Q I (i σ H Q q)⟩
theorem PT.imp {X : Cx} {e : Expr} {t t' : TT} (h : PT X e t) (i : ∀ σ H Q, t' σ H Q → t σ H Q) : PT X e t' := ⟨fun pins s σ H Q I q => h.run pins s σ H Q I (i σ H Q q)⟩
theorem PW.imp {X : Cx} {e : Expr} {t t' : TT} (h : PW X e t) (i : ∀ σ H Q, t' σ H Q → t σ H Q) : PW X e t' := ⟨fun wh pins s σ H Q I q => h.run wh pins s σ H Q I (i σ H Q q)⟩
theorem PA.imp {X : Cx} {e : List Expr} {t t' : TA} (h : PA X e t) (i : ∀ σ H Q, t' σ H Q → t σ H Q) : PA X e t' := ⟨fun pos pins s σ H Q I q => h.run pos pins s σ H Q I (i σ H Q q)⟩
theorem PO.imp {X : Cx} {e : Option Expr} {t t' : TO} (h : PO X e t) (i : ∀ σ H Q, t' σ H Q → t σ H Q) : PO X e t' := by
  obtain ⟨run⟩ := h
  exact ⟨fun pins s σ H Q I q => run pins s σ H Q I (i σ H Q q)⟩
section
variable {X : Cx} {ca : Nat → Addr} {W : WX} {a b c : Expr} {pos : Pos} {ma mb mc : Slots → Rs EV}
abbrev tEX (X : Cx) (ca : Nat → Addr) (W : WX) := tE X.K ca W
/-- a constant -/
theorem ev_const {e : Expr} {v : V} {d : D} (h : PE X e (tC v)) (r : ∀ Hf, Rp X.K Hf v d) : PE X e (tEX X ca W fun _ => .ok (.dat d)) :=
  PE.imp h fun σ H Q ⟨H0, Hf, ow, s, o, p⟩ => p v Hf H (Grow.refl o.fr) (r Hf)
theorem ev_var {i : Nat} (h : PE X a (tVar i)) : PE X a (tEX X ca W fun s => getS s i) := by
  refine PE.imp h fun σ H Q ⟨H0, Hf, ow, s, o, p⟩ => ?_
  have p : Post ca W (fun Hb Hf' H' u ev => RE X.K Hb Hf' H' ow u ev) Hf H σ (getS s i) Q := p
  unfold getS at p
  split at p
  · rename_i d e
    obtain ⟨u, e1, r⟩ := o.at_ i _ e
    exact ⟨u, e1, p u Hf H (Grow.refl o.fr) r⟩
  · rename_i d e
    obtain ⟨u, e1, r⟩ := o.at_ i _ e
    exact ⟨u, e1, p u Hf H (Grow.refl o.fr) ⟨i, r⟩⟩
  · exact p.elim
/-- two values, one operation -/
theorem two {R : V → V → Hp → Prop} {σ : L2.St} {H : Hp} {γ δ : Type} {Rel2 : (Addr → Option Nat) → Hp → Hp → Hp → δ → γ → Prop} {f : EV → EV → Rs γ} {Q : δ → Hp → Prop} {H0 : Hp × Hp} {Hf : Hp} {ow : Addr → Option Nat} {s : Slots}
    (o : Ok X.K H0 Hf ow H σ s) (p : Post ca W (Rel2 ow) Hf H σ (do let x ← ma s; let y ← mb s; f x y) Q)
    (back : ∀ {Hb Hb' Hf H : Hp} {b : δ} {a : γ}, Same Hb Hb' → Rel2 ow Hb' Hf H b a → Rel2 ow Hb Hf H b a)
    (k : ∀ x y u w Hf2 H2, Same Hf2 H2 → Ok X.K H0 Hf2 ow H2 σ s → RE X.K H Hf2 H2 ow u x → RE X.K H Hf2 H2 ow w y → Post ca W (Rel2 ow) Hf2 H2 σ (f x y) Q → R u w H2) :
    tEX X ca W ma σ H fun u H1 => tEX X ca W mb σ H1 fun w H2 => R u w H2 := by
  refine ⟨H0, Hf, ow, s, o, Post.bind p fun x u Hf1 H1 g1 r1 p1 => ?_⟩
  refine ⟨H0, Hf1, ow, s, o.grow g1, Post.bind (Post.shift (Rel := Rel2 ow) (fun s h => back s h) g1 p1) fun y w Hf2 H2 g2 r2 p2 => ?_⟩
  exact k x y u w Hf2 H2 g2.sub ((o.grow g1).grow g2) (r1.mono g2) (r2.back g1.up) (Post.shift (Rel := Rel2 ow) (fun s h => back s h) g2 p2)
theorem ev_bin {op : Operator} {f : D → D → Option EV} (h : OpR X (binaryOp op) (rPrim X.K f)) (ha : PE X a (tEX X ca W ma)) (hb : PE X b (tEX X ca W mb)) :
    PE X (.BinOp a op b pos) (tEX X ca W fun s => do let x ← ma s; let y ← mb s; ofO (f x.d y.d)) := by
  refine PE.imp (pe_op h ha hb) fun σ H Q ⟨H0, Hf, ow, s, o, p⟩ => ?_
  exact two (Rel2 := fun ow Hb Hf H u ev => RE X.K Hb Hf H ow u ev) o p backE fun x y u w Hf2 H2 f2 _ r1 r2 p2 => ⟨Hf2, x.d, y.d, f2, r1.rx, r2.rx, p2.prim⟩
theorem ev_cmp {op : CmpOp} {f : D → D → Option Bool} (h : OpR X (compareOp op) (rCmp X.K f)) (ha : PE X a (tEX X ca W ma)) (hb : PE X b (tEX X ca W mb)) (hm : behindInMarks op b = false) :
    PE X (.Compare a [op] [b] pos) (tEX X ca W fun s => do let x ← ma s; let y ← mb s; let k ← ofO (f x.d y.d); .ok (.dat (.bool k))) := by
  refine PE.imp (pe_cmpR h ha hb hm) fun σ H Q ⟨H0, Hf, ow, s, o, p⟩ => ?_
  refine two (Rel2 := fun ow Hb Hf H u ev => RE X.K Hb Hf H ow u ev) o p backE fun x y u w Hf2 H2 f2 _ r1 r2 p2 => ?_
  cases e : f x.d y.d with
  | none => rw [e] at p2; exact p2.elim
  | some k =>
    rw [e] at p2
    exact ⟨Hf2, x.d, y.d, k, f2, r1.rx, r2.rx, e, p2 (.bl k) Hf2 H2 (Grow.refl f2) (.bl k)⟩
theorem et_cmp {op : CmpOp} {f : D → D → Option Bool} (h : OpR X (compareOp op) (rCmp X.K f)) (ha : PE X a (tEX X ca W ma)) (hb : PE X b (tEX X ca W mb)) (hm : behindInMarks op b = false) :
    PT X (.Compare a [op] [b] pos) (tT X.K ca W fun s => do let x ← ma s; let y ← mb s; ofO (f x.d y.d)) := by
  refine PT.imp (pt_cmpR h ha hb hm) fun σ H Q ⟨H0, Hf, ow, s, o, p⟩ => ?_
  refine two (Rel2 := fun _ _ _ _ b a => b = a) o p (fun _ h => h) fun x y u w Hf2 H2 f2 _ r1 r2 p2 => ?_
  cases e : f x.d y.d with
  | none => rw [e] at p2; exact p2.elim
  | some k =>
    rw [e] at p2
    exact ⟨Hf2, x.d, y.d, k, f2, r1.rx, r2.rx, e, k, rfl, p2 k Hf2 H2 (Grow.refl f2) rfl⟩
end
end DV

namespace DV
open PySem PySem.Spec PyProof.Rows L2
section
variable {K : PySem.W.Frag} {Hf Hf1 H H1 : Hp} {ow : Addr → Option Nat} {u : V} {ev : EV} {d : D}
/-- a value that is kept from now on -/
theorem RE.keep (g : Grow Hf H Hf1 H1) (r : RE K H Hf1 H1 ow u ev) (e : ev.fix = some d) : ∃ Hf2, Grow Hf H Hf2 H1 ∧ Same Hf1 Hf2 ∧ Rp K Hf2 u d := by
  cases ev with
  | dat d' => cases e; exact ⟨Hf1, g, Same.refl _, r⟩
  | own d' => cases e
  | new d' =>
    cases e
    obtain ⟨p, rfl, hb, hf, t⟩ := r
    rcases t with ⟨xs, ds, rfl, hp, q⟩ | ⟨ks, ds, rfl, hp, q⟩
    · obtain ⟨s1, s2⟩ := Grow.fix g.sub hp
      refine ⟨upd Hf1 p (.lst xs), ⟨g.up, g.fup.trans s1, s2, fun a h1 h2 => ?_⟩, s1, .lst (.inl (.inl upd_same)) (q.mono s1)⟩
      rw [upd_ne (fun z => h1 (by rw [z]; exact hb))]
      exact g.nof a h1 h2
    · obtain ⟨s1, s2⟩ := Grow.fix g.sub hp
      refine ⟨upd Hf1 p (.dK ks), ⟨g.up, g.fup.trans s1, s2, fun a h1 h2 => ?_⟩, s1, .dct ⟨ks, .inl upd_same, rfl⟩ (q.mono s1)⟩
      rw [upd_ne (fun z => h1 (by rw [z]; exact hb))]
      exact g.nof a h1 h2
end
section
variable {X : Cx} {ca : Nat → Addr} {W : WX} {a b c : Expr} {es : List Expr} {pos : Pos} {ma mb mc : Slots → Rs EV} {mr : Slots → Rs (List D)}
theorem back_all {α β : Type} {R : Hp → Hp → β → α → Prop} {Hb Hb' Hf H : Hp} {b : β} {a : α} (_ : Same Hb Hb') (h : R Hf H b a) : R Hf H b a := h
/-! arguments -/
theorem ef_nil : PA X [] (tF X.K ca W fun _ => .ok []) := PA.imp pa_nil fun σ H Q ⟨H0, Hf, ow, s, o, p⟩ => p [] Hf H (Grow.refl o.fr) .nil
theorem ef_cons (ha : PE X a (tEX X ca W ma)) (hr : PA X es (tF X.K ca W mr)) (hs : starEach (a :: es) X.env = (false, eval a X.env) :: starEach es X.env) :
    PA X (a :: es) (tF X.K ca W fun s => do let x ← ma s; let d ← ofO x.fix; let ds ← mr s; .ok (d :: ds)) := by
  refine PA.imp (pa_cons ha hr hs) fun σ H Q ⟨H0, Hf, ow, s, o, p⟩ => ?_
  refine ⟨H0, Hf, ow, s, o, Post.bind p fun x u Hf1 H1 g1 r1 p1 => ?_⟩
  cases e : x.fix with
  | none => rw [e] at p1; exact p1.elim
  | some d =>
    rw [e] at p1
    obtain ⟨Hf2, g2, s2, r2⟩ := r1.keep g1 e
    refine ⟨H0, Hf2, ow, s, o.grow g2, Post.bind (Post.shift (Rel := fun _ Hf' _ us ds => RpAll X.K Hf' us ds) (fun _ h => h) g2 p1) fun ds us Hf3 H3 g3 r3 p3 => ?_⟩
    exact p3 (u :: us) Hf3 H3 g3 (.cons (r2.mono g3.fup) r3)
theorem ed_nil : PA X [] (tD X.K ca W fun _ => .ok []) := PA.imp pa_nil fun σ H Q ⟨H0, Hf, ow, s, o, p⟩ => p [] Hf H (Grow.refl o.fr) .nil
theorem ed_cons (ha : PE X a (tEX X ca W ma)) (hr : PA X es (tD X.K ca W mr)) (hs : starEach (a :: es) X.env = (false, eval a X.env) :: starEach es X.env) :
    PA X (a :: es) (tD X.K ca W fun s => do let x ← ma s; let ds ← mr s; .ok (x.d :: ds)) := by
  refine PA.imp (pa_cons ha hr hs) fun σ H Q ⟨H0, Hf, ow, s, o, p⟩ => ?_
  refine ⟨H0, Hf, ow, s, o, Post.bind p fun x u Hf1 H1 g1 r1 p1 => ?_⟩
  refine ⟨H0, Hf1, ow, s, o.grow g1, Post.bind (Post.shift (Rel := fun _ Hf' H' us ds => RxAll X.K Hf' H' us ds) (fun _ h => h) g1 p1) fun ds us Hf3 H3 g3 r3 p3 => ?_⟩
  exact p3 (u :: us) Hf3 H3 g3 (.cons (r1.rx.mono g3) r3)
/-! displays -/
theorem ev_tup {k : Nat} (h : PA X es (tF X.K ca W mr)) : PE X (.Tuple es k pos) (tEX X ca W fun s => do let ds ← mr s; if fits ds.length then .ok (.dat (.tuple ds)) else .st) := by
  refine PE.imp (pe_tup h) fun σ H Q ⟨H0, Hf, ow, s, o, p⟩ => ?_
  refine ⟨H0, Hf, ow, s, o, Post.bind p fun ds us Hf1 H1 g1 r1 p1 => ?_⟩
  split at p1
  · rename_i hz
    refine ⟨by rw [r1.length]; exact fits_le hz, fun q n => ?_⟩
    have g2 := Grow.fixed (o := .tup us) g1.sub n
    exact p1 (.ref q) _ _ (g1.trans g2) (.tup (.inl (.inl upd_same)) (r1.mono g2.fup))
  · exact p1.elim
theorem ev_lst (h : PA X es (tF X.K ca W mr)) : PE X (.List es pos) (tEX X ca W fun s => do let ds ← mr s; if fits ds.length then .ok (.new (.list ds)) else .st) := by
  refine PE.imp (pe_lst h) fun σ H Q ⟨H0, Hf, ow, s, o, p⟩ => ?_
  refine ⟨H0, Hf, ow, s, o, Post.bind p fun ds us Hf1 H1 g1 r1 p1 => ?_⟩
  split at p1
  · rename_i hz
    refine ⟨by rw [r1.length]; exact fits_le hz, fun q n => ?_⟩
    have g2 := Grow.laid (o := .lst us) g1.sub n
    exact p1 (.ref q) _ _ (g1.trans g2) ⟨q, rfl, g1.up.free n, g1.sub.free n, .inl ⟨us, ds, rfl, upd_same, r1⟩⟩
  · exact p1.elim
/-! one value -/
theorem Post.prim1 {Hf H : Hp} {σ : L2.St} {ow : Addr → Option Nat} {o : Option EV} {Q : VK} (h : Post ca W (fun Hb Hf' H' u ev => RE X.K Hb Hf' H' ow u ev) Hf H σ (ofO o) Q) : Prim X.K Hf H o Q := h.prim
theorem ev_neg (ha : PE X a (tEX X ca W ma)) : PE X (.UnaryOp .USub a pos) (tEX X ca W fun s => do let x ← ma s; ofO (negD x.d)) := by
  refine PE.imp (pe_un un_negD ha) fun σ H Q ⟨H0, Hf, ow, s, o, p⟩ => ?_
  refine ⟨H0, Hf, ow, s, o, Post.bind p fun x u Hf1 H1 g1 r1 p1 => ?_⟩
  exact ⟨Hf1, x.d, g1.sub, r1.rx, (Post.shift (Rel := fun Hb Hf' H' u ev => RE X.K Hb Hf' H' ow u ev) backE g1 p1).prim⟩
theorem ev_rep (ha : PE X a (tEX X ca W ma)) (hb : PE X b (tEX X ca W mb)) : PE X (.BinOp a .Mult b pos) (tEX X ca W fun s => do let x ← ma s; let y ← mb s; ofO (repD x y.d)) := by
  refine PE.imp (pe_op op_rep ha hb) fun σ H Q ⟨H0, Hf, ow, s, o, p⟩ => ?_
  refine two (Rel2 := fun ow Hb Hf H u ev => RE X.K Hb Hf H ow u ev) o p backE fun x y u w Hf2 H2 f2 _ r1 r2 p2 => ?_
  have p3 := p2.prim
  unfold repD at p3
  split at p3
  · split at p3
    · rename_i hz
      obtain ⟨q, rfl, hb, hf, t⟩ := r1
      have hw := (show Rx X.K Hf2 H2 w _ from r2.rx)
      rename_i e
      rw [e] at hw
      rcases t with ⟨xs', ds, e2, hp, r⟩ | ⟨ks, ds, e2, hp, r⟩
      · cases e2
        simp only [Bool.and_eq_true, decide_eq_true_eq] at hz
        exact ⟨q, _, xs', rfl, hw.int, hp, hz.1.1, hz.1.2, by rw [r.length]; exact fits_le hz.2, fun z n => p3.newList f2 n (r.rep _)⟩
      · cases e2
    · exact p3.elim
  · exact p3.elim
theorem ev_isi {n np : Str} {t : Ty} {p1 p2 : Pos} (ha : PE X a (tEX X ca W ma)) (hg : Gl X "isinstance") (hm : X.mg "isinstance" = none) (hb : PE X b (tC (.ty (tyN t)))) (hs : starEach [a, b] X.env = [(false, eval a X.env), (false, eval b X.env)]) (hs2 : starEach [b] X.env = [(false, eval b X.env)]) :
    PE X (.Call (.Name "isinstance" p1) [a, b] [] pos) (tEX X ca W fun s => do let x ← ma s; .ok (.dat (.bool (isiD t x.d)))) := by
  refine PE.imp (pe_callB (call_isiD t) hg hm PyProof.Rows.boot_isinstance (pa_cons ha (pa_cons hb pa_nil (by rw [hs2]; rfl)) (by rw [hs, hs2])) (by decide) (by decide) (by rw [hs, hs2]) (by rw [hs2]; rfl)) fun σ H Q ⟨H0, Hf, ow, s, o, p⟩ => ?_
  refine ⟨H0, Hf, ow, s, o, Post.bind p fun x u Hf1 H1 g1 r1 p1 => ?_⟩
  exact ⟨Hf1, u, x.d, rfl, g1.sub, r1.rx, p1 _ Hf1 H1 g1 (.bl _)⟩
/-! conditions -/
theorem et_truth (ha : PE X a (tEX X ca W ma)) (he : ∀ whole, isTrue a X.env whole = (do let v ← whole; standAt a.pos; holding [v] (truthy v))) : PT X a (tT X.K ca W fun s => do let x ← ma s; ofO (truthD x.d)) := by
  refine PT.imp (t := fun σ H Q => tEX X ca W ma σ H fun x H' => ∃ Hf dx b, Same Hf H' ∧ Rx X.K Hf H' x dx ∧ truthD dx = some b ∧ Q b H') ⟨fun pins s σ H Q I h => isTrue_plain (thn (ha.run pins s σ H _ I h) fun v s1 ⟨x, H1, I1, r1, q1⟩ => tru_D pins s1 σ H1 x v Q I1 r1 q1) (he _)⟩ fun σ H Q ⟨H0, Hf, ow, s, o, p⟩ => ?_
  refine ⟨H0, Hf, ow, s, o, Post.bind p fun x u Hf1 H1 g1 r1 p1 => ?_⟩
  cases e : truthD x.d with
  | none => rw [e] at p1; exact p1.elim
  | some k => rw [e] at p1; exact ⟨Hf1, x.d, k, g1.sub, r1.rx, e, p1 k Hf1 H1 g1 rfl⟩
theorem et_not {m : Slots → Rs Bool} (h : PT X a (tT X.K ca W m)) : PT X (.UnaryOp .Not a pos) (tT X.K ca W fun s => do let b ← m s; .ok (!b)) := by
  refine PT.imp (pt_not h) fun σ H Q ⟨H0, Hf, ow, s, o, p⟩ => ?_
  refine ⟨H0, Hf, ow, s, o, Post.bind p fun x u Hf1 H1 g1 r1 p1 => ?_⟩
  subst r1
  exact p1 _ Hf1 H1 g1 rfl
theorem ev_not (h : PE X a (tEX X ca W ma)) : PE X (.UnaryOp .Not a pos) (tEX X ca W fun s => do let x ← ma s; let b ← ofO (boolD x.d); .ok (.dat (.bool (!b)))) := by
  refine PE.imp (pe_not h) fun σ H Q ⟨H0, Hf, ow, s, o, p⟩ => ?_
  refine ⟨H0, Hf, ow, s, o, Post.bind p fun x u Hf1 H1 g1 r1 p1 => ?_⟩
  have r := r1.rx
  cases e : x.d with
  | bool k =>
    rw [e] at p1 r
    exact ⟨k, r.bool, p1 _ Hf1 H1 g1 (.bl _)⟩
  | none => rw [e] at p1; exact p1.elim
  | int _ => rw [e] at p1; exact p1.elim
  | str _ => rw [e] at p1; exact p1.elim
  | list _ => rw [e] at p1; exact p1.elim
  | tuple _ => rw [e] at p1; exact p1.elim
  | dict _ => rw [e] at p1; exact p1.elim
theorem ev_if {m : Slots → Rs Bool} (hc : PT X c (tT X.K ca W m)) (ha : PE X a (tEX X ca W ma)) (hb : PE X b (tEX X ca W mb)) : PE X (.IfExp c a b pos) (tEX X ca W fun s => do let k ← m s; if k then ma s else mb s) := by
  refine PE.imp (pe_ifExp hc ha hb) fun σ H Q ⟨H0, Hf, ow, s, o, p⟩ => ?_
  refine ⟨H0, Hf, ow, s, o, Post.bind p fun x u Hf1 H1 g1 r1 p1 => ?_⟩
  subst r1
  have p2 := Post.shift (Rel := fun Hb Hf' H' u ev => RE X.K Hb Hf' H' ow u ev) backE g1 p1
  cases u with
  | true => exact ⟨H0, Hf1, ow, s, o.grow g1, p2⟩
  | false => exact ⟨H0, Hf1, ow, s, o.grow g1, p2⟩
theorem ev_and {rest : List Expr} {m : Slots → Rs EV} (ha : PE X a (tEX X ca W ma)) (hb : PE X (.BoolOp .And (b :: rest) pos) (tEX X ca W m)) :
    PE X (.BoolOp .And (a :: b :: rest) pos) (tEX X ca W fun s => do let x ← ma s; let k ← ofO (boolD x.d); if k then m s else .ok (.dat (.bool false))) := by
  refine PE.imp (pe_and ha hb) fun σ H Q ⟨H0, Hf, ow, s, o, p⟩ => ?_
  refine ⟨H0, Hf, ow, s, o, Post.bind p fun x u Hf1 H1 g1 r1 p1 => ?_⟩
  have r := r1.rx
  cases e : x.d with
  | bool k =>
    rw [e] at p1 r
    refine ⟨k, r.bool, ?_⟩
    have p2 := Post.shift (Rel := fun Hb Hf' H' u ev => RE X.K Hb Hf' H' ow u ev) backE g1 p1
    cases k with
    | true => exact ⟨H0, Hf1, ow, s, o.grow g1, p2⟩
    | false => exact p1 _ Hf1 H1 g1 (.bl _)
  | none => rw [e] at p1; exact p1.elim
  | int _ => rw [e] at p1; exact p1.elim
  | str _ => rw [e] at p1; exact p1.elim
  | list _ => rw [e] at p1; exact p1.elim
  | tuple _ => rw [e] at p1; exact p1.elim
  | dict _ => rw [e] at p1; exact p1.elim
theorem ev_or {rest : List Expr} {m : Slots → Rs EV} (ha : PE X a (tEX X ca W ma)) (hb : PE X (.BoolOp .Or (b :: rest) pos) (tEX X ca W m)) :
    PE X (.BoolOp .Or (a :: b :: rest) pos) (tEX X ca W fun s => do let x ← ma s; let k ← ofO (boolD x.d); if k then .ok (.dat (.bool true)) else m s) := by
  refine PE.imp (pe_or ha hb) fun σ H Q ⟨H0, Hf, ow, s, o, p⟩ => ?_
  refine ⟨H0, Hf, ow, s, o, Post.bind p fun x u Hf1 H1 g1 r1 p1 => ?_⟩
  have r := r1.rx
  cases e : x.d with
  | bool k =>
    rw [e] at p1 r
    refine ⟨k, r.bool, ?_⟩
    have p2 := Post.shift (Rel := fun Hb Hf' H' u ev => RE X.K Hb Hf' H' ow u ev) backE g1 p1
    cases k with
    | false => exact ⟨H0, Hf1, ow, s, o.grow g1, p2⟩
    | true => exact p1 _ Hf1 H1 g1 (.bl _)
  | none => rw [e] at p1; exact p1.elim
  | int _ => rw [e] at p1; exact p1.elim
  | str _ => rw [e] at p1; exact p1.elim
  | list _ => rw [e] at p1; exact p1.elim
  | tuple _ => rw [e] at p1; exact p1.elim
  | dict _ => rw [e] at p1; exact p1.elim
theorem et_and {rest : List Expr} {m m' : Slots → Rs Bool} (ha : PT X a (tT X.K ca W m)) (hb : PW X (.BoolOp .And (b :: rest) pos) (tT X.K ca W m')) :
    PW X (.BoolOp .And (a :: b :: rest) pos) (tT X.K ca W fun s => do let k ← m s; if k then m' s else .ok false) := by
  refine PW.imp (pw_and ha hb) fun σ H Q ⟨H0, Hf, ow, s, o, p⟩ => ?_
  refine ⟨H0, Hf, ow, s, o, Post.bind p fun x u Hf1 H1 g1 r1 p1 => ?_⟩
  subst r1
  have p2 := Post.shift (Rel := fun _ _ _ (b : Bool) a => b = a) (fun _ h => h) g1 p1
  cases u with
  | true => exact ⟨H0, Hf1, ow, s, o.grow g1, p2⟩
  | false => exact p1 _ Hf1 H1 g1 rfl
theorem et_or {rest : List Expr} {m m' : Slots → Rs Bool} (ha : PT X a (tT X.K ca W m)) (hb : PW X (.BoolOp .Or (b :: rest) pos) (tT X.K ca W m')) :
    PW X (.BoolOp .Or (a :: b :: rest) pos) (tT X.K ca W fun s => do let k ← m s; if k then .ok true else m' s) := by
  refine PW.imp (pw_or ha hb) fun σ H Q ⟨H0, Hf, ow, s, o, p⟩ => ?_
  refine ⟨H0, Hf, ow, s, o, Post.bind p fun x u Hf1 H1 g1 r1 p1 => ?_⟩
  subst r1
  have p2 := Post.shift (Rel := fun _ _ _ (b : Bool) a => b = a) (fun _ h => h) g1 p1
  cases u with
  | false => exact ⟨H0, Hf1, ow, s, o.grow g1, p2⟩
  | true => exact p1 _ Hf1 H1 g1 rfl
/-! subscripts, slices -/
theorem ev_idx (hu : X.A.units + 1 < cLine) (ha : PE X a (tEX X ca W ma)) (hb : PE X b (tEX X ca W mb)) (hs : PlainIx b) : PE X (.Subscript a b pos) (tEX X ca W fun s => do let x ← ma s; let y ← mb s; ofO (idxD x.d y.d)) := by
  refine PE.imp (pe_ix (ix_D hu) ha hb hs) fun σ H Q ⟨H0, Hf, ow, s, o, p⟩ => ?_
  exact two (Rel2 := fun ow Hb Hf H u ev => RE X.K Hb Hf H ow u ev) o p backE fun x y u w Hf2 H2 f2 _ r1 r2 p2 => ⟨Hf2, x.d, y.d, f2, r1.rx, r2.rx, p2.prim⟩
theorem eo_none : PO X none (tO X.K ca W fun _ => .ok none) := PO.imp po_none fun σ H Q ⟨H0, Hf, ow, s, o, p⟩ => p none Hf H (Grow.refl o.fr) rfl
theorem eo_some (ha : PE X a (tEX X ca W ma)) : PO X (some a) (tO X.K ca W fun s => do let x ← ma s; let i ← ofO (intD x.d); .ok (some i)) := by
  refine PO.imp (po_some ha) fun σ H Q ⟨H0, Hf, ow, s, o, p⟩ => ?_
  refine ⟨H0, Hf, ow, s, o, Post.bind p fun x u Hf1 H1 g1 r1 p1 => ?_⟩
  have r := r1.rx
  cases e : x.d with
  | int k => rw [e] at p1 r; exact ⟨k, r.int, p1 _ Hf1 H1 g1 rfl⟩
  | none => rw [e] at p1; exact p1.elim
  | bool _ => rw [e] at p1; exact p1.elim
  | str _ => rw [e] at p1; exact p1.elim
  | list _ => rw [e] at p1; exact p1.elim
  | tuple _ => rw [e] at p1; exact p1.elim
  | dict _ => rw [e] at p1; exact p1.elim
theorem ev_slice {lo hi : Option Expr} {p2 : Pos} {ml mh : Slots → Rs (Option Int)} (ha : PE X a (tEX X ca W ma)) (hl : PO X lo (tO X.K ca W ml)) (hh : PO X hi (tO X.K ca W mh)) :
    PE X (.Subscript a (.Slice lo hi none p2) pos) (tEX X ca W fun s => do let x ← ma s; let l ← ml s; let h ← mh s; ofO (sliceD x.d l h)) := by
  refine PE.imp (pe_slice sl_D ha hl hh) fun σ H Q ⟨H0, Hf, ow, s, o, p⟩ => ?_
  refine ⟨H0, Hf, ow, s, o, Post.bind p fun x u Hf1 H1 g1 r1 p1 => ?_⟩
  refine ⟨H0, Hf1, ow, s, o.grow g1, Post.bind (Post.shift (Rel := fun Hb Hf' H' u ev => RE X.K Hb Hf' H' ow u ev) backE g1 p1) fun l ul Hf2 H2 g2 r2 p2 => ?_⟩
  subst r2
  refine ⟨H0, Hf2, ow, s, (o.grow g1).grow g2, Post.bind (Post.shift (Rel := fun Hb Hf' H' u ev => RE X.K Hb Hf' H' ow u ev) backE g2 p2) fun l2 ul2 Hf3 H3 g3 r3 p3 => ?_⟩
  subst r3
  exact ⟨Hf3, x.d, g3.sub, (r1.rx.mono g2).mono g3, (Post.shift (Rel := fun Hb Hf' H' u ev => RE X.K Hb Hf' H' ow u ev) backE g3 p3).prim⟩
theorem ev_rev {k : Nat} {p1 p2 p3 : Pos} (ha : PE X a (tEX X ca W ma)) : PE X (.Subscript a (.Slice none none (some (.UnaryOp .USub (.Constant (.int 1) k p1) p2)) p3) pos) (tEX X ca W fun s => do let x ← ma s; ofO (revD x.d)) := by
  refine PE.imp (pe_revL ha) fun σ H Q ⟨H0, Hf, ow, s, o, p⟩ => ?_
  refine ⟨H0, Hf, ow, s, o, Post.bind p fun x u Hf1 H1 g1 r1 p1 => ?_⟩
  have r := r1.rx
  have p2 := (Post.shift (Rel := fun Hb Hf' H' u ev => RE X.K Hb Hf' H' ow u ev) backE g1 p1).prim
  unfold revD at p2
  split at p2
  · rename_i ds e
    rw [e] at r
    obtain ⟨q, xs, rfl, ha, rr⟩ := r.list g1.sub
    exact ⟨q, xs, rfl, ha, fun z n => p2.newList g1.sub n rr.reverse⟩
  · exact p2.elim
end
end DV

namespace DV
open PySem PySem.Spec PyProof.Rows L2

/-! ### calls of the text's own defs -/
def FnPost (K : PySem.W.Frag) (ca : Nat → Addr) (Hf H : Hp) (r : Rs EV) (Q : VK) (E : XK) : Prop :=
  match r with
  | .ok ev => ∀ u Hf' H', Grow Hf H Hf' H' → RN K H Hf' H' u ev → Q u H'
  | .ex x => ∀ c d Hf' H', Grow Hf H Hf' H' → XR ca c d x → E c d H'
  | .st => False
/-- what a def promises: F of its arguments -/
def spD (K : PySem.W.Frag) (ca : Nat → Addr) (n : Nat) (F : List D → Rs EV) : Sp := fun vs H Q E => ∃ Hf ds, Same Hf H ∧ RpAll K Hf vs ds ∧ ds.length = n ∧ FnPost K ca Hf H (F ds) Q E
section
variable {X : Cx} {ca : Nat → Addr} {W : WX} {a b c : Expr} {es : List Expr} {pos : Pos} {ma mb mc : Slots → Rs EV} {mr : Slots → Rs (List D)}
theorem ev_call {k n : Nat} {f : Addr} {fd : FuncData} {ps : List Str} {F : List D → Rs EV} {x : Str} {p : Pos} (hF : FnOk X.prog X.w X.K X.mg X.base (L2.CX X.prog X.w) k f fd ps (spD X.K ca n F)) (hr : Room k X.A) (hg : Gl X x) (hm : X.mg x = some (.ref f)) (hk : PySem.W.keepIn X.K (.ref f) = true) (hb : Binds X.K fd ps []) (tk : Takes X W)
    (ha : PA X (a :: es) (tF X.K ca W mr)) (hdb : (x == ("__debug__" : Str)) = false) (he : starEach (a :: es) X.env = (false, eval a X.env) :: starEach es X.env) (hpl : (backTo pos (starEach es X.env)).any (·.1) = false)
    (hlen : ∀ s ds, mr s = .ok ds → ds.length = n) :
    PE X (.Call (.Name x p) (a :: es) [] pos) (tEX X ca W fun s => do let ds ← mr s; F ds) := by
  refine PE.imp (pe_callS (E := WE W) hF hr hg hm hk hb (fun σ => passAt tk σ) ha hdb he hpl) fun σ H Q ⟨H0, Hf, ow, s, o, p⟩ => ?_
  have hl := hlen s
  refine ⟨H0, Hf, ow, s, o, ?_⟩
  dsimp only at p
  cases e : mr s with
  | st => rw [e] at p; exact p
  | ex x => rw [e] at p; exact p
  | ok ds =>
    rw [e] at p
    intro us Hf1 H1 g1 r1
    refine ⟨Hf1, ds, g1.sub, r1, hl ds e, ?_⟩
    have p2 : Post ca W (fun Hb Hf' H' u ev => RE X.K Hb Hf' H' ow u ev) Hf1 H1 σ (F ds) Q := Post.shift (Rel := fun Hb Hf' H' u ev => RE X.K Hb Hf' H' ow u ev) backE g1 p
    cases e2 : F ds with
    | st => rw [e2] at p2; exact p2
    | ok ev => rw [e2] at p2; exact fun u Hf' H' g r => p2 u Hf' H' g r.re
    | ex x => rw [e2] at p2; exact fun c d Hf' H' g r => p2 c d Hf' H' g r
/-! ### built-ins -/
def bfN : Bf → Str
  | .len => "len"
  | .abs => "abs"
  | .all => "all"
  | .any => "any"
  | .list => "list"
  | .tuple => "tuple"
  | .int => "int"
  | .sum => "sum"
theorem bf_boot (b : Bf) : bootBuiltins (bfN b) = some (bfV b) := by
  cases b <;> decide +kernel
theorem ev_blt {b : Bf} {p : Pos} (hc : X.calm = true) (hg : Gl X (bfN b)) (hm : X.mg (bfN b) = none) (ha : PA X (a :: es) (tD X.K ca W mr)) (he : starEach (a :: es) X.env = (false, eval a X.env) :: starEach es X.env) (hpl : (backTo pos (starEach es X.env)).any (·.1) = false) :
    PE X (.Call (.Name (bfN b) p) (a :: es) [] pos) (tEX X ca W fun s => do let ds ← mr s; ofO (bfD b ds)) := by
  have base : PE X (.Call (.Name (bfN b) p) (a :: es) [] pos) (tCB (rBf X.K (bfD b)) (tD X.K ca W mr)) := by
    cases b
    case list => exact pe_callTy (call_bf hc .list) hg hm (bf_boot .list) ha (by decide) (by decide) he hpl
    case tuple => exact pe_callTy (call_bf hc .tuple) hg hm (bf_boot .tuple) ha (by decide) (by decide) he hpl
    case int => exact pe_callTy (call_bf hc .int) hg hm (bf_boot .int) ha (by decide) (by decide) he hpl
    case len => exact pe_callB (call_bf hc .len) hg hm (bf_boot .len) ha (by decide) (by decide) he hpl
    case abs => exact pe_callB (call_bf hc .abs) hg hm (bf_boot .abs) ha (by decide) (by decide) he hpl
    case all => exact pe_callB (call_bf hc .all) hg hm (bf_boot .all) ha (by decide) (by decide) he hpl
    case any => exact pe_callB (call_bf hc .any) hg hm (bf_boot .any) ha (by decide) (by decide) he hpl
    case sum => exact pe_callB (call_bf hc .sum) hg hm (bf_boot .sum) ha (by decide) (by decide) he hpl
  refine PE.imp base fun σ H Q ⟨H0, Hf, ow, s, o, p⟩ => ?_
  refine ⟨H0, Hf, ow, s, o, Post.bind p fun ds us Hf1 H1 g1 r1 p1 => ?_⟩
  exact ⟨Hf1, ds, g1.sub, r1, (Post.shift (Rel := fun Hb Hf' H' u ev => RE X.K Hb Hf' H' ow u ev) backE g1 p1).prim⟩
/-! ### chains -/
theorem ev_chain {op op' : CmpOp} {f f' : D → D → Option Bool} (h : OpR X (compareOp op) (rCmp X.K f)) (h' : OpR X (compareOp op') (rCmp X.K f')) (ha : PE X a (tEX X ca W ma)) (hb : PE X b (tEX X ca W mb)) (hc : PE X c (tEX X ca W mc)) (hm : lastMarks [op, op'] [b, c] = false) :
    PE X (.Compare a [op, op'] [b, c] pos) (tEX X ca W fun s => do
      let x ← ma s
      let y ← mb s
      let k ← ofO (f x.d y.d)
      if k then do
        let z ← mc s
        let k' ← ofO (f' y.d z.d)
        .ok (.dat (.bool k'))
      else .ok (.dat (.bool false))) := by
  refine PE.imp (pe_chain h h' ha hb hc hm) fun σ H Q ⟨H0, Hf, ow, s, o, p⟩ => ?_
  refine two (Rel2 := fun ow Hb Hf H u ev => RE X.K Hb Hf H ow u ev) o p backE fun x y u w Hf2 H2 f2 o2 r1 r2 p2 => ?_
  cases e : f x.d y.d with
  | none => rw [e] at p2; exact p2.elim
  | some k =>
    rw [e] at p2
    refine ⟨Hf2, x.d, y.d, k, f2, r1.rx, r2.rx, e, k, rfl, ?_⟩
    cases k with
    | false => exact p2 _ Hf2 H2 (Grow.refl f2) (.bl _)
    | true =>
      refine ⟨H0, Hf2, ow, s, o2, Post.bind p2 fun z uz Hf3 H3 g3 r3 p3 => ?_⟩
      have p4 := Post.shift (Rel := fun Hb Hf' H' u ev => RE X.K Hb Hf' H' ow u ev) backE g3 p3
      cases e' : f' y.d z.d with
      | none => rw [e'] at p4; exact p4.elim
      | some k' =>
        rw [e'] at p4
        exact ⟨Hf3, y.d, z.d, k', g3.sub, r2.rx.mono g3, r3.rx, e', p4 (.bl k') Hf3 H3 (Grow.refl g3.sub) (.bl k')⟩
theorem et_chain {op op' : CmpOp} {f f' : D → D → Option Bool} (h : OpR X (compareOp op) (rCmp X.K f)) (h' : OpR X (compareOp op') (rCmp X.K f')) (ha : PE X a (tEX X ca W ma)) (hb : PE X b (tEX X ca W mb)) (hc : PE X c (tEX X ca W mc)) (hm : lastMarks [op, op'] [b, c] = false) :
    PT X (.Compare a [op, op'] [b, c] pos) (tT X.K ca W fun s => do
      let x ← ma s
      let y ← mb s
      let k ← ofO (f x.d y.d)
      if k then do
        let z ← mc s
        ofO (f' y.d z.d)
      else .ok false) := by
  refine PT.imp (pt_chain h h' ha hb hc hm) fun σ H Q ⟨H0, Hf, ow, s, o, p⟩ => ?_
  refine two (Rel2 := fun _ _ _ _ b a => b = a) o p (fun _ h => h) fun x y u w Hf2 H2 f2 o2 r1 r2 p2 => ?_
  cases e : f x.d y.d with
  | none => rw [e] at p2; exact p2.elim
  | some k =>
    rw [e] at p2
    refine ⟨Hf2, x.d, y.d, k, f2, r1.rx, r2.rx, e, k, rfl, ?_⟩
    cases k with
    | false => exact ⟨false, rfl, p2 _ Hf2 H2 (Grow.refl f2) rfl⟩
    | true =>
      refine ⟨H0, Hf2, ow, s, o2, Post.bind p2 fun z uz Hf3 H3 g3 r3 p3 => ?_⟩
      have p4 := Post.shift (Rel := fun _ _ _ (b : Bool) a => b = a) (fun _ h => h) g3 p3
      cases e' : f' y.d z.d with
      | none => rw [e'] at p4; exact p4.elim
      | some k' =>
        rw [e'] at p4
        exact ⟨Hf3, y.d, z.d, k', g3.sub, r2.rx.mono g3, r3.rx, e', k', rfl, p4 k' Hf3 H3 (Grow.refl g3.sub) rfl⟩
end

/-! ### what is walked -/
/-- J walks ds, as long as Hf and Hm stay -/
def WalksD (K : PySem.W.Frag) (Hf Hm : Hp) (J : L2.It) (ds : List D) : Prop := ∀ i Hf2 H2, Same Hf Hf2 → Same Hf2 H2 → Same Hm H2 →
  (i < ds.length → J.go i H2) ∧ (ds.length ≤ i → J.stop i H2) ∧ ∀ d, ds[i]? = some d → ∀ x H3, J.yld i H2 x H3 → ∃ Hf3, Grow Hf2 H2 Hf3 H3 ∧ Rp K Hf3 x d
def tI (K : PySem.W.Frag) (ca : Nat → Addr) (W : WX) (m : Slots → Rs (List D)) : TI := fun σ H R => ∃ H0 Hf ow s, Ok K H0 Hf ow H σ s ∧ Post ca W (fun _ Hf' H' J ds => WalksD K Hf' H' J ds) Hf H σ (m s) R
/-- .. where the body may change what slots hold -/
def tIF (K : PySem.W.Frag) (ca : Nat → Addr) (W : WX) (m : Slots → Rs (List D)) : TI := fun σ H R => ∃ H0 Hf ow s, Ok K H0 Hf ow H σ s ∧ Post ca W (fun _ Hf' _ J ds => WalksD K Hf' Hf' J ds) Hf H σ (m s) R
theorem PI.or {X : Cx} {tg it : Expr} {w1 w2 : TI} (h1 : PI X tg it w1) (h2 : PI X tg it w2) : PI X tg it (fun σ H R => w1 σ H R ∨ w2 σ H R) :=
  ⟨fun pins s σ H R I h => h.elim (fun q => h1.run pins s σ H R I q) fun q => h2.run pins s σ H R I q⟩
theorem PI.imp {X : Cx} {tg it : Expr} {t t' : TI} (h : PI X tg it t) (i : ∀ σ H R, t' σ H R → t σ H R) : PI X tg it t' := ⟨fun pins s σ H R I q => h.run pins s σ H R I (i σ H R q)⟩
section
variable {K : PySem.W.Frag} {Hf Hm : Hp} {a : Addr} {xs : List V} {ds : List D}
theorem walksD_list (h : ∀ H2, Same Hm H2 → SqL K H2 a xs) (r : RpAll K Hf xs ds) : WalksD K Hf Hm (Itl K a) ds := fun i Hf2 H2 s1 s2 s3 => by
  have q := h H2 s3
  refine ⟨fun hi => ?_, fun hi => ⟨xs, q, by rw [r.length]; exact hi⟩, fun d e x H3 y => ?_⟩
  · obtain ⟨v, e, _⟩ := r.get (List.getElem?_eq_getElem hi)
    exact ⟨xs, v, q, e⟩
  · obtain ⟨rfl, y⟩ := y
    obtain ⟨v, e', rv⟩ := r.get e
    have := (y xs q).symm.trans e'
    cases this
    exact ⟨Hf2, Grow.refl s2, rv.mono s1⟩
theorem walksD_tup (h : SqT K Hf a xs) (r : RpAll K Hf xs ds) : WalksD K Hf Hm (Itt K a) ds := fun i Hf2 H2 s1 s2 s3 => by
  have q := Same.sqT (s1.trans s2) h
  refine ⟨fun hi => ?_, fun hi => ⟨xs, q, by rw [r.length]; exact hi⟩, fun d e x H3 y => ?_⟩
  · obtain ⟨v, e, _⟩ := r.get (List.getElem?_eq_getElem hi)
    exact ⟨xs, v, q, e⟩
  · obtain ⟨rfl, y⟩ := y
    obtain ⟨v, e', rv⟩ := r.get e
    have := (y xs q).symm.trans e'
    cases this
    exact ⟨Hf2, Grow.refl s2, rv.mono s1⟩
theorem walksD_str {z : Str} : WalksD K Hf Hm (Its z) (z.cps.toList.map fun c => .str (oneS c)) := fun i Hf2 H2 s1 s2 s3 => by
  refine ⟨fun hi => ?_, fun hi => ?_, fun d e x H3 y => ?_⟩
  · show i < z.cps.size
    simpa using hi
  · show z.cps.size ≤ i
    simpa using hi
  · obtain ⟨rfl, c, e2, rfl⟩ := y
    rw [List.getElem?_map, Array.getElem?_toList, e2] at e
    cases e
    exact ⟨Hf2, Grow.refl s2, .str _⟩
theorem walksD_range {lo hi : Int} : WalksD K Hf Hm (Itr lo (hi - lo).toNat) (rangeL lo hi) := fun i Hf2 H2 s1 s2 s3 => by
  have hl : (rangeL lo hi).length = (hi - lo).toNat := by unfold rangeL; rw [List.length_map, List.length_range]
  refine ⟨fun hi => ?_, fun hi => ?_, fun d e x H3 y => ?_⟩
  · rw [hl] at hi; exact hi
  · rw [hl] at hi; exact hi
  · obtain ⟨rfl, rfl⟩ := y
    unfold rangeL at e
    rw [List.getElem?_map] at e
    cases e2 : (List.range (hi - lo).toNat)[i]? with
    | none => rw [e2] at e; cases e
    | some j =>
      rw [e2] at e
      cases e
      obtain ⟨h1, h2⟩ := List.getElem?_eq_some_iff.mp e2
      rw [List.getElem_range] at h2
      subst h2
      exact ⟨Hf2, Grow.refl s2, .int _⟩
theorem WalksD.mono {J : L2.It} {Hf' Hm' : Hp} (h : WalksD K Hf Hm J ds) (s : Same Hf Hf') (m : Same Hm Hm') : WalksD K Hf' Hm' J ds := fun i Hf2 H2 s1 s2 s3 => h i Hf2 H2 (s.trans s1) s2 (m.trans s3)
end
section
variable {X : Cx} {ca : Nat → Addr} {W : WX} {tg a b : Expr} {pos : Pos} {ma mb : Slots → Rs EV}
theorem ei_seq (ha : PE X a (tEX X ca W ma)) : PI X tg a (tI X.K ca W fun s => do let x ← ma s; ofO (itD x.d)) := by
  refine PI.imp (PI.or (pi_list ha) (PI.or (pi_tup ha) (pi_str ha))) fun σ H R ⟨H0, Hf, ow, s, o, p⟩ => ?_
  dsimp only at p
  cases e : ma s with
  | st => rw [e] at p; exact p.elim
  | ex x =>
    rw [e] at p
    refine .inl ⟨H0, Hf, ow, s, o, ?_⟩
    rw [e]
    exact p
  | ok x =>
    rw [e] at p
    cases e2 : x.d with
    | list ds =>
      refine .inl ⟨H0, Hf, ow, s, o, ?_⟩
      rw [e]
      intro u Hf1 H1 g1 r1
      have r := r1.rx
      rw [e2] at r
      obtain ⟨q, xs, rfl, hq, rr⟩ := r.list g1.sub
      have p' : Post ca W (fun _ Hf' H' J ds => WalksD X.K Hf' H' J ds) Hf H σ (ofO (itD x.d)) R := p
      rw [e2] at p'
      exact ⟨q, rfl, ⟨xs, hq⟩, p' _ Hf1 H1 g1 (walksD_list (fun H2 s2 => L2.Same.seq s2 hq) rr)⟩
    | tuple ds =>
      refine .inr (.inl ⟨H0, Hf, ow, s, o, ?_⟩)
      rw [e]
      intro u Hf1 H1 g1 r1
      have r := r1.rx
      rw [e2] at r
      obtain ⟨q, xs, rfl, kq, hq, rr⟩ := r.tuple g1.sub
      have p' : Post ca W (fun _ Hf' H' J ds => WalksD X.K Hf' H' J ds) Hf H σ (ofO (itD x.d)) R := p
      rw [e2] at p'
      exact ⟨q, rfl, ⟨xs, hq⟩, p' _ Hf1 H1 g1 (walksD_tup kq rr)⟩
    | str z =>
      refine .inr (.inr ⟨H0, Hf, ow, s, o, ?_⟩)
      rw [e]
      intro u Hf1 H1 g1 r1
      have r := r1.rx
      rw [e2] at r
      have p' : Post ca W (fun _ Hf' H' J ds => WalksD X.K Hf' H' J ds) Hf H σ (ofO (itD x.d)) R := p
      rw [e2] at p'
      exact ⟨z, r.str, p' _ Hf1 H1 g1 walksD_str⟩
    | none => have p' : Post ca W (fun _ Hf' H' J ds => WalksD X.K Hf' H' J ds) Hf H σ (ofO (itD x.d)) R := p; rw [e2] at p'; exact p'.elim
    | bool _ => have p' : Post ca W (fun _ Hf' H' J ds => WalksD X.K Hf' H' J ds) Hf H σ (ofO (itD x.d)) R := p; rw [e2] at p'; exact p'.elim
    | int _ => have p' : Post ca W (fun _ Hf' H' J ds => WalksD X.K Hf' H' J ds) Hf H σ (ofO (itD x.d)) R := p; rw [e2] at p'; exact p'.elim
    | dict _ => have p' : Post ca W (fun _ Hf' H' J ds => WalksD X.K Hf' H' J ds) Hf H σ (ofO (itD x.d)) R := p; rw [e2] at p'; exact p'.elim
/-- the same, what is walked kept -/
theorem ei_seqF (ha : PE X a (tEX X ca W ma)) : PI X tg a (tIF X.K ca W fun s => do let x ← ma s; let d ← ofO x.fix; ofO (itD d)) := by
  refine PI.imp (PI.or (pi_list ha) (PI.or (pi_tup ha) (pi_str ha))) fun σ H R ⟨H0, Hf, ow, s, o, p⟩ => ?_
  dsimp only at p
  cases e : ma s with
  | st => rw [e] at p; exact p.elim
  | ex x =>
    rw [e] at p
    refine .inl ⟨H0, Hf, ow, s, o, ?_⟩
    rw [e]
    exact p
  | ok x =>
    rw [e] at p
    cases e3 : x.fix with
    | none => have p' : Post ca W (fun _ Hf' _ J ds => WalksD X.K Hf' Hf' J ds) Hf H σ (do let d ← ofO x.fix; ofO (itD d)) R := p; rw [e3] at p'; exact p'.elim
    | some d =>
      have p1 : Post ca W (fun _ Hf' _ J ds => WalksD X.K Hf' Hf' J ds) Hf H σ (do let d ← ofO x.fix; ofO (itD d)) R := p
      rw [e3] at p1
      have p' : Post ca W (fun _ Hf' _ J ds => WalksD X.K Hf' Hf' J ds) Hf H σ (ofO (itD d)) R := p1
      cases e2 : d with
      | list ds =>
        rw [e2] at e3 p'
        refine .inl ⟨H0, Hf, ow, s, o, ?_⟩
        rw [e]
        intro u Hf1 H1 g1 r1
        obtain ⟨Hf2, g2, s2, r2⟩ := r1.keep g1 e3
        cases r2 with
        | @lst q xs _ hq rr => exact ⟨q, rfl, ⟨xs, L2.Same.seq g2.sub hq⟩, p' _ Hf2 H1 g2 (walksD_list (fun H2 s2 => L2.Same.seq s2 hq) rr)⟩
      | tuple ds =>
        rw [e2] at e3 p'
        refine .inr (.inl ⟨H0, Hf, ow, s, o, ?_⟩)
        rw [e]
        intro u Hf1 H1 g1 r1
        obtain ⟨Hf2, g2, s2, r2⟩ := r1.keep g1 e3
        cases r2 with
        | @tup q xs _ hq rr => exact ⟨q, rfl, ⟨xs, Same.sqT g2.sub hq⟩, p' _ Hf2 H1 g2 (walksD_tup hq rr)⟩
      | str z =>
        rw [e2] at e3 p'
        refine .inr (.inr ⟨H0, Hf, ow, s, o, ?_⟩)
        rw [e]
        intro u Hf1 H1 g1 r1
        obtain ⟨Hf2, g2, s2, r2⟩ := r1.keep g1 e3
        cases r2 with
        | str _ => exact ⟨z, rfl, p' _ Hf2 H1 g2 walksD_str⟩
      | none => rw [e2] at p'; exact p'.elim
      | bool _ => rw [e2] at p'; exact p'.elim
      | int _ => rw [e2] at p'; exact p'.elim
      | dict _ => rw [e2] at p'; exact p'.elim
end
end DV

namespace DV
open PySem PySem.Spec PyProof.Rows L2
section
variable {X : Cx} {ca : Nat → Addr} {W : WX} {tg a b : Expr} {pos : Pos} {ma mb : Slots → Rs EV}
/-! ranges -/
theorem range1_gen {Rel : Hp → Hp → Hp → L2.It → List D → Prop} (back : ∀ {Hb Hb' Hf H : Hp} {b : L2.It} {a : List D}, Same Hb Hb' → Rel Hb' Hf H b a → Rel Hb Hf H b a) (hR : ∀ Hb Hf H j, Rel Hb Hf H (Itr 0 (j - 0).toNat) (rangeL 0 j)) {p : Pos} (hg : Gl X "range") (hm : X.mg "range" = none) (ha : PE X a (tEX X ca W ma)) (hs : starEach [a] X.env = [(false, eval a X.env)]) :
    PI X tg (.Call (.Name "range" p) [a] [] pos) (fun σ H R => ∃ H0 Hf ow s, Ok X.K H0 Hf ow H σ s ∧ Post ca W Rel Hf H σ (do
      let x ← ma s
      let j ← ofO (intD x.d)
      if decide (-(2 ^ 62) ≤ j) && decide (j < 2 ^ 62) then .ok (rangeL 0 j) else .st) R) := by
  refine PI.imp (pi_range1 hg hm (pa_cons ha pa_nil hs) hs) fun σ H R ⟨H0, Hf, ow, s, o, p⟩ => ?_
  refine ⟨H0, Hf, ow, s, o, Post.bind p fun x u Hf1 H1 g1 r1 p1 => ?_⟩
  have r := r1.rx
  cases e : x.d with
  | int j =>
    rw [e] at p1 r
    have p2 : Post ca W Rel Hf H σ (if (decide (-(2 ^ 62) ≤ j) && decide (j < 2 ^ 62)) = true then Rs.ok (rangeL 0 j) else .st) R := p1
    split at p2
    · rename_i hz
      rw [Bool.and_eq_true] at hz
      refine ⟨j, by rw [r.int], of_decide_eq_true hz.1, of_decide_eq_true hz.2, ?_⟩
      have q := p2 _ Hf1 H1 g1 (hR H Hf1 H1 j)
      simpa using q
    · exact p2.elim
  | none => rw [e] at p1; exact p1.elim
  | bool _ => rw [e] at p1; exact p1.elim
  | str _ => rw [e] at p1; exact p1.elim
  | list _ => rw [e] at p1; exact p1.elim
  | tuple _ => rw [e] at p1; exact p1.elim
  | dict _ => rw [e] at p1; exact p1.elim
theorem range2_gen {Rel : Hp → Hp → Hp → L2.It → List D → Prop} (back : ∀ {Hb Hb' Hf H : Hp} {b : L2.It} {a : List D}, Same Hb Hb' → Rel Hb' Hf H b a → Rel Hb Hf H b a) (hR : ∀ Hb Hf H i j, Rel Hb Hf H (Itr i (j - i).toNat) (rangeL i j)) {p : Pos} (hg : Gl X "range") (hm : X.mg "range" = none) (ha : PE X a (tEX X ca W ma)) (hb : PE X b (tEX X ca W mb)) (hs : starEach [a, b] X.env = [(false, eval a X.env), (false, eval b X.env)]) (hs2 : starEach [b] X.env = [(false, eval b X.env)]) :
    PI X tg (.Call (.Name "range" p) [a, b] [] pos) (fun σ H R => ∃ H0 Hf ow s, Ok X.K H0 Hf ow H σ s ∧ Post ca W Rel Hf H σ (do
      let x ← ma s
      let i ← ofO (intD x.d)
      let y ← mb s
      let j ← ofO (intD y.d)
      if decide (-(2 ^ 62) ≤ i) && decide (i < 2 ^ 62) && decide (-(2 ^ 62) ≤ j) && decide (j < 2 ^ 62) then .ok (rangeL i j) else .st) R) := by
  refine PI.imp (pi_range2 hg hm (pa_cons ha (pa_cons hb pa_nil hs2) (by rw [hs, hs2])) hs hs2) fun σ H R ⟨H0, Hf, ow, s, o, p⟩ => ?_
  refine ⟨H0, Hf, ow, s, o, Post.bind p fun x u Hf1 H1 g1 r1 p1 => ?_⟩
  have r := r1.rx
  cases e : x.d with
  | int i =>
    rw [e] at p1 r
    refine ⟨H0, Hf1, ow, s, o.grow g1, Post.bind (Post.shift (Rel := Rel) back g1 (show Post ca W Rel Hf H σ (do
      let y ← mb s
      let j ← ofO (intD y.d)
      if decide (-(2 ^ 62) ≤ i) && decide (i < 2 ^ 62) && decide (-(2 ^ 62) ≤ j) && decide (j < 2 ^ 62) then Rs.ok (rangeL i j) else .st) R from p1)) fun y v Hf2 H2 g2 r2 p2 => ?_⟩
    have rr := r2.rx
    cases e2 : y.d with
    | int j =>
      rw [e2] at p2 rr
      have p3 : Post ca W Rel Hf1 H1 σ (if (decide (-(2 ^ 62) ≤ i) && decide (i < 2 ^ 62) && decide (-(2 ^ 62) ≤ j) && decide (j < 2 ^ 62)) = true then Rs.ok (rangeL i j) else .st) R := p2
      split at p3
      · rename_i hz
        simp only [Bool.and_eq_true, decide_eq_true_eq] at hz
        exact ⟨i, j, by rw [r.int, rr.int], ⟨hz.1.1.1, hz.1.1.2, hz.1.2, hz.2⟩, p3 _ Hf2 H2 g2 (hR H1 Hf2 H2 i j)⟩
      · exact p3.elim
    | none => rw [e2] at p2; exact p2.elim
    | bool _ => rw [e2] at p2; exact p2.elim
    | str _ => rw [e2] at p2; exact p2.elim
    | list _ => rw [e2] at p2; exact p2.elim
    | tuple _ => rw [e2] at p2; exact p2.elim
    | dict _ => rw [e2] at p2; exact p2.elim
  | none => rw [e] at p1; exact p1.elim
  | bool _ => rw [e] at p1; exact p1.elim
  | str _ => rw [e] at p1; exact p1.elim
  | list _ => rw [e] at p1; exact p1.elim
  | tuple _ => rw [e] at p1; exact p1.elim
  | dict _ => rw [e] at p1; exact p1.elim
end

/-! ### targets -/
/-- the slots but those of vs stay -/
def Off (vs : List Nat) (σ σ' : L2.St) : Prop := σ'.length = σ.length ∧ ∀ i, i ∉ vs → σ'[i]? = σ[i]?
theorem Off.trans {vs ws : List Nat} {σ σ' σ'' : L2.St} (h : Off vs σ σ') (h' : Off ws σ' σ'') : Off (vs ++ ws) σ σ'' :=
  ⟨h'.1.trans h.1, fun i hi => (h'.2 i fun z => hi (List.mem_append_right _ z)).trans (h.2 i fun z => hi (List.mem_append_left _ z))⟩
def tG (K : PySem.W.Frag) (vs : List Nat) (put : D → Slots → Option Slots) : TG := fun v σ H Q => ∃ H0 Hf ow s d, Ok K H0 Hf ow H σ s ∧ Rp K Hf v d ∧
  match put d s with
  | some s' => ∀ σ', Ok K H0 Hf ow H σ' s' → Off vs σ σ' → Q σ' H
  | none => False
def tGs (K : PySem.W.Frag) (vs : List Nat) (put : List D → Slots → Option Slots) : TGs := fun us σ H Q => ∃ H0 Hf ow s ds, Ok K H0 Hf ow H σ s ∧ RpAll K Hf us ds ∧
  match put ds s with
  | some s' => ∀ σ', Ok K H0 Hf ow H σ' s' → Off vs σ σ' → Q σ' H
  | none => False
section
variable {X : Cx} {K : PySem.W.Frag} {H0 : Hp × Hp} {Hf H : Hp} {ow : Addr → Option Nat} {σ : L2.St} {s : Slots} {i : Nat} {u : V}
theorem slots_get {s : List (Option SV)} {i j : Nat} {x : Option SV} {v : SV} (e : (s.set i x)[j]? = some (some v)) : (j = i ∧ x = some v ∧ i < s.length) ∨ (j ≠ i ∧ s[j]? = some (some v)) := by
  by_cases h : j = i
  · subst h
    by_cases hl : j < s.length
    · rw [List.getElem?_set_self hl] at e
      exact .inl ⟨rfl, Option.some.inj e, hl⟩
    · rw [List.getElem?_eq_none (by rw [List.length_set]; omega)] at e
      cases e
  · rw [List.getElem?_set_ne (Ne.symm h)] at e
    exact .inr ⟨h, e⟩
theorem Ok.setDat {d : D} (o : Ok K H0 Hf ow H σ s) (r : Rp K Hf u d) : Ok K H0 Hf ow H (σ.set i (some u)) (s.set i (some (.dat d))) :=
  ⟨o.gr, o.own, by rw [List.length_set, List.length_set]; exact o.len, fun j v e => by
    rcases slots_get e with ⟨rfl, e, hl⟩ | ⟨hj, e⟩
    · cases e
      exact ⟨u, List.getElem?_set_self (by rw [o.len]; exact hl), r⟩
    · obtain ⟨w, e1, r1⟩ := o.at_ j v e
      exact ⟨w, by rw [List.getElem?_set_ne (Ne.symm hj)]; exact e1, r1⟩⟩
theorem off_set {x : Option V} : Off [i] σ (σ.set i x) := ⟨List.length_set, fun j hj => List.getElem?_set_ne fun e => hj (by rw [e]; exact List.mem_singleton.mpr rfl)⟩
theorem tg_var {tg : Expr} (h : PG X tg (gName i)) : PG X tg (tG X.K [i] (fun d s => some (s.set i (some (.dat d))))) :=
  ⟨fun pins s' σ H v u Q I r ⟨H0, Hf, ow, s, d, o, rd, q⟩ => h.run pins s' σ H v u Q I r (q (σ.set i (some v)) (o.setDat rd) off_set)⟩
theorem tgs_nil : PGs X [] (tGs X.K [] (fun ds s => match ds with | [] => some s | _ :: _ => none)) :=
  ⟨fun pins s' σ H v u Q I r ⟨H0, Hf, ow, s, ds, o, rd, q⟩ => by
    cases rd with
    | nil => exact pgs_nil.run pins s' σ H [] u Q I r ⟨rfl, q σ o ⟨rfl, fun _ _ => rfl⟩⟩
    | cons _ _ => exact q.elim⟩
theorem tgs_cons {e : Expr} {es : List Expr} {vs ws : List Nat} {p1 : D → Slots → Option Slots} {p2 : List D → Slots → Option Slots} (h1 : PG X e (tG X.K vs p1)) (h2 : PGs X es (tGs X.K ws p2))
    (hs : (assignEach (e :: es) X.env).map (·.2) = assign e X.env :: (assignEach es X.env).map (·.2)) :
    PGs X (e :: es) (tGs X.K (vs ++ ws) (fun ds s => match ds with | [] => none | d :: ds => (p1 d s).bind fun s1 => p2 ds s1)) :=
  ⟨fun pins s' σ H v u Q I r ⟨H0, Hf, ow, s, ds, o, rd, q⟩ => by
    cases rd with
    | nil => exact q.elim
    | @cons v vr d dr r1 r2 =>
      refine (pgs_cons h1 h2 hs).run pins s' σ H _ u Q I r ⟨v, vr, rfl, H0, Hf, ow, s, d, o, r1, ?_⟩
      have q' : (match (p1 d s).bind fun s1 => p2 dr s1 with | some s' => ∀ σ', Ok X.K H0 Hf ow H σ' s' → Off (vs ++ ws) σ σ' → Q σ' H | none => False) := q
      cases e1 : p1 d s with
      | none => rw [e1] at q'; exact q'.elim
      | some s1 =>
        rw [e1] at q'
        intro σ1 o1 f1
        refine ⟨H0, Hf, ow, s1, dr, o1, r2, ?_⟩
        have q2 : (match p2 dr s1 with | some s' => ∀ σ', Ok X.K H0 Hf ow H σ' s' → Off (vs ++ ws) σ σ' → Q σ' H | none => False) := q'
        cases e2 : p2 dr s1 with
        | none => rw [e2] at q2; exact q2.elim
        | some s2 => rw [e2] at q2; exact fun σ2 o2 f2 => q2 σ2 o2 (f1.trans f2)⟩
theorem tg_tup {es : List Expr} {k n : Nat} {pos : Pos} {vs : List Nat} {p : List D → Slots → Option Slots} (hc : X.calm = true) (h : PGs X es (tGs X.K vs p)) (hn : (assignEach es X.env).length = n) (hst : (assignEach es X.env).findIdx? (·.1) = none)
    (hp : ∀ ds s s', p ds s = some s' → ds.length = n) : PG X (.Tuple es k pos) (tG X.K vs (fun d s => match d with | .tuple ds => p ds s | _ => none)) :=
  ⟨fun pins s' σ H v u Q I r ⟨H0, Hf, ow, s, d, o, rd, q⟩ => by
    cases rd with
    | @tup a xs ds hq ra =>
      refine (pg_tup hc h hn hst).run pins s' σ H _ u Q I r ⟨a, xs, rfl, Same.sqT o.fr hq, ?_, H0, Hf, ow, s, ds, o, ra, q⟩
      have q' : (match p ds s with | some s' => ∀ σ', Ok X.K H0 Hf ow H σ' s' → Off vs σ σ' → Q σ' H | none => False) := q
      cases e : p ds s with
      | none => rw [e] at q'; exact q'.elim
      | some s1 => rw [ra.length]; exact hp ds s s1 e
    | non => exact q.elim
    | bl _ => exact q.elim
    | int _ => exact q.elim
    | str _ => exact q.elim
    | lst _ _ => exact q.elim
    | dct _ _ => exact q.elim⟩
end
/-! ### comprehensions -/
theorem wipe_get (σ : L2.St) (i : Nat) : ∀ vs : List Nat, (wipe σ vs)[i]? = if i ∈ vs then (if i < σ.length then some none else none) else σ[i]?
  | [] => by rw [if_neg (by simp)]; rfl
  | v :: vs => by
    unfold wipe
    have ih := wipe_get σ i vs
    by_cases h : v = i
    · subst h
      rw [if_pos List.mem_cons_self]
      by_cases hl : v < σ.length
      · rw [if_pos hl, List.getElem?_set_self (by rw [wipe_length]; exact hl)]
      · rw [if_neg hl, List.getElem?_eq_none (by rw [List.length_set, wipe_length]; omega)]
    · rw [List.getElem?_set_ne h, ih]
      by_cases hm : i ∈ vs
      · rw [if_pos hm, if_pos (List.mem_cons_of_mem _ hm)]
      · rw [if_neg hm, if_neg (by simp only [List.mem_cons, not_or]; exact ⟨Ne.symm h, hm⟩)]
theorem wipe_off {σ σ' : L2.St} {vs ws : List Nat} (h : Off ws σ σ') (sub : ∀ i ∈ ws, i ∈ vs) : wipe σ' vs = wipe σ vs := by
  apply List.ext_getElem?
  intro i
  rw [wipe_get, wipe_get, h.1]
  by_cases hm : i ∈ vs
  · rw [if_pos hm, if_pos hm]
  · rw [if_neg hm, if_neg hm]
    exact h.2 i fun z => hm (sub i z)
theorem wipe_wipe (σ : L2.St) (vs : List Nat) : wipe (wipe σ vs) vs = wipe σ vs := by
  apply List.ext_getElem?
  intro i
  rw [wipe_get, wipe_get, wipe_length]
  by_cases hm : i ∈ vs
  · rw [if_pos hm, if_pos hm]
  · rw [if_neg hm, if_neg hm]
theorem wipeS_length (s : Slots) : ∀ vs : List Nat, (wipeS s vs).length = s.length
  | [] => rfl
  | v :: vs => by unfold wipeS; rw [List.length_set, wipeS_length s vs]
theorem wipeS_get {s : Slots} {i : Nat} {v : SV} : ∀ {vs : List Nat}, (wipeS s vs)[i]? = some (some v) → s[i]? = some (some v) ∧ i ∉ vs
  | [], e => ⟨e, by simp⟩
  | w :: vs, e => by
    unfold wipeS at e
    rcases slots_get e with ⟨_, e, _⟩ | ⟨h, e⟩
    · cases e
    · obtain ⟨h1, h2⟩ := wipeS_get e
      exact ⟨h1, by simp only [List.mem_cons, not_or]; exact ⟨h, h2⟩⟩
theorem Ok.wipe {K : PySem.W.Frag} {H0 : Hp × Hp} {Hf H : Hp} {ow : Addr → Option Nat} {σ : L2.St} {s : Slots} (o : Ok K H0 Hf ow H σ s) (vs : List Nat) : Ok K H0 Hf ow H (L2.wipe σ vs) (wipeS s vs) :=
  ⟨o.gr, o.own, by rw [wipe_length, wipeS_length]; exact o.len, fun i v e => by
    obtain ⟨h1, h2⟩ := wipeS_get e
    obtain ⟨u, e1, r⟩ := o.at_ i v h1
    exact ⟨u, by rw [wipe_get, if_neg h2]; exact e1, r⟩⟩
end DV

namespace DV
open PySem PySem.Spec PyProof.Rows L2
def W0 : WX := fun _ _ _ _ => False
theorem compL_cons {put : D → Slots → Option Slots} {test : Slots → Option Bool} {elt : Slots → Option EV} {d : D} {r : List D} {s : Slots} {ys : List D} (h : compL put test elt (d :: r) s = some ys) :
    ∃ s1 b, put d s = some s1 ∧ test s1 = some b ∧ ((b = true ∧ ∃ e y zs, elt s1 = some e ∧ e.fix = some y ∧ compL put test elt r s = some zs ∧ ys = y :: zs) ∨ (b = false ∧ compL put test elt r s = some ys)) := by
  unfold compL at h
  cases e1 : put d s with
  | none => rw [e1] at h; cases h
  | some s1 =>
    rw [e1] at h
    cases e2 : test s1 with
    | none => simp [e2] at h
    | some b =>
      refine ⟨s1, b, rfl, e2, ?_⟩
      cases b with
      | false => exact .inr ⟨rfl, by simpa [e2] using h⟩
      | true =>
        refine .inl ⟨rfl, ?_⟩
        cases e3 : elt s1 with
        | none => simp [e2, e3] at h
        | some e =>
          cases e4 : e.fix with
          | none => simp [e2, e3, e4] at h
          | some y =>
            cases e5 : compL put test elt r s with
            | none => simp [e2, e3, e4, e5] at h
            | some zs => exact ⟨e, y, zs, rfl, e4, rfl, by simpa [e2, e3, e4, e5, eq_comm] using h⟩
section
variable {X : Cx} {ca : Nat → Addr} {W : WX} {tg iter elt : Expr} {ifs : List Expr} {pos : Pos}
/-- what holds between two turns: done so far acc, from i on the rest -/
structure Mid (K : PySem.W.Frag) (Hf1 H1 : Hp) (D0 : Addr) (rest : List D → Option (List D)) (ds ys : List D) (i : Nat) (H : Hp) : Prop where
  ex : ∃ (Hf : Hp) (av : List V) (ad zs : List D), Grow Hf1 H1 Hf H ∧ Hf D0 = none ∧ H D0 = some (.lst av) ∧ RpAll K Hf av ad ∧ ad.length ≤ i ∧ rest (ds.drop i) = some zs ∧ ys = ad ++ zs
/-- a comprehension's value -/
def mComp (mi : Slots → Rs (List D)) (put : D → Slots → Option Slots) (mt : Slots → Rs Bool) (me : Slots → Rs EV) (vs : List Nat) : Slots → Rs EV := fun s => do
  let ds ← mi s
  let ys ← ofO (if fits ds.length then compL put (fun s => (mt s).toO) (fun s => (me s).toO) ds (wipeS s vs) else none)
  .ok (.new (.list ys))
theorem lc_of {own : List (Str × Nat)} {tv : List Nat} {put : D → Slots → Option Slots} {mi : Slots → Rs (List D)} {mt : Slots → Rs Bool} {me : Slots → Rs EV} (sub : ∀ i ∈ tv, i ∈ own.map (·.2)) :
    ∀ σ H Q, tEX X ca W (mComp mi put mt me (own.map (·.2))) σ H Q → tLc (tI X.K ca W mi) (tG X.K tv put) (tT X.K ca W0 mt) (tE X.K ca W0 me) (own.map (·.2)) σ H Q := by
  intro σ H Q ⟨H0, Hf, ow, s, o, p⟩
  refine ⟨H0, Hf, ow, s, o, Post.bind p fun ds J Hf1 H1 g1 wk p1 => ?_⟩
  intro D0 hD
  cases hz : fits ds.length with
  | false => rw [hz] at p1; exact p1.elim
  | true =>
    rw [hz, if_pos rfl] at p1
    cases hy : compL put (fun s => (mt s).toO) (fun s => (me s).toO) ds (wipeS s (own.map (·.2))) with
    | none => rw [hy] at p1; exact p1.elim
    | some ys =>
      rw [hy] at p1
      have fz := fits_le hz
      -- the invariant
      refine ⟨fun i m H => m = ds.length - i ∧ i ≤ ds.length ∧ Mid X.K Hf1 H1 D0 (fun r => compL put (fun s => (mt s).toO) (fun s => (me s).toO) r (wipeS s (own.map (·.2)))) ds ys i H, ⟨ds.length, by simp, Nat.zero_le _, ⟨⟨Hf1, [], [], ys, Grow.laid g1.sub hD, g1.sub.free hD, upd_same, .nil, Nat.le_refl _, (by rw [List.drop_zero]; exact hy), rfl⟩⟩⟩, ?_⟩
      rintro i m H2 ⟨rfl, hi2, ⟨⟨Hf2, av, ad, zs, g2, fD, hD2, ra, hl, hr, hys⟩⟩⟩
      have wk2 := wk i Hf2 H2 g2.fup g2.sub g2.up
      by_cases hlt : i < ds.length
      · refine .inr ⟨wk2.1 hlt, fun H' => Mid X.K Hf1 H1 D0 (fun r => compL put (fun s => (mt s).toO) (fun s => (me s).toO) r (wipeS s (own.map (·.2)))) ds ys (i + 1) H', fun H' q => ⟨ds.length - (i + 1), by omega, rfl, hlt, q⟩, fun x H3 y => ?_⟩
        have ed : ds[i]? = some ds[i] := List.getElem?_eq_getElem hlt
        obtain ⟨Hf3, g3, rx⟩ := wk2.2.2 _ ed x H3 y
        rw [List.drop_eq_getElem_cons hlt] at hr
        obtain ⟨s1, b, e1, e2, alt⟩ := compL_cons hr
        have o3 : Ok X.K H0 Hf3 ow H3 (wipe σ (own.map (·.2))) (wipeS s (own.map (·.2))) := ((o.grow g1).grow (g2.trans g3)).wipe _
        have hD3 : H3 D0 = some (.lst av) := g3.up _ _ hD2
        have fD3 : Hf3 D0 = none := g3.nof D0 (by rw [hD2]; exact fun z => nomatch z) fD
        refine ⟨H0, Hf3, ow, _, _, o3, rx, ?_⟩
        rw [e1]
        intro σ' o4 off
        refine ⟨?_, H0, Hf3, ow, s1, o4, ?_⟩
        · rw [wipe_off off sub, wipe_wipe]
        · cases em : mt s1 with
          | st => rw [em] at e2; cases e2
          | ex x => rw [em] at e2; cases e2
          | ok b' =>
            rw [em] at e2
            cases e2
            intro b2 Hf4 H4 g4 eb
            subst eb
            rcases alt with ⟨rfl, e, y, zs', e3, e4, e5, rfl⟩ | ⟨rfl, e5⟩
            · rw [if_pos rfl]
              refine ⟨H0, Hf4, ow, s1, o4.grow g4, ?_⟩
              cases em2 : me s1 with
              | st => rw [em2] at e3; cases e3
              | ex x => rw [em2] at e3; cases e3
              | ok ev =>
                rw [em2] at e3
                cases e3
                intro u Hf5 H5 g5 r5
                obtain ⟨Hf6, g6, s6, r6⟩ := r5.keep g5 e4
                have g26 := (g3.trans g4).trans g6
                have hD5 : H5 D0 = some (.lst av) := (g4.trans g6).up _ _ hD3
                have fD6 : Hf6 D0 = none := (g4.trans g6).nof D0 (by rw [hD3]; exact fun z => nomatch z) fD3
                have hlen : av.length < sizeLine := by rw [ra.length]; omega
                refine ⟨av, hD5, hlen, ⟨⟨Hf6, av ++ [u], ad ++ [y], zs', ⟨fun a o q => ?_, g2.fup.trans g26.fup, fun a o q => ?_, (g2.trans g26).nof⟩, fD6, upd_same, (ra.mono g26.fup).append (.cons r6 .nil), by rw [List.length_append]; exact Nat.add_le_add_right hl 1, e5, ?_⟩⟩⟩
                · have na : a ≠ D0 := ne_of_none q hD
                  rw [upd_ne na]
                  exact (g2.trans g26).up _ _ q
                · have na : a ≠ D0 := ne_of_none q fD6
                  rw [upd_ne na]
                  exact g26.sub _ _ q
                · rw [hys, List.append_assoc]; rfl
            · rw [if_neg (by decide)]
              have g24 := g3.trans g4
              exact ⟨⟨Hf4, av, ad, zs, g2.trans g24, g4.nof D0 (by rw [hD3]; exact fun z => nomatch z) fD3, g4.up _ _ hD3, ra.mono g24.fup, Nat.le_succ_of_le hl, e5, hys⟩⟩
      · refine .inl ⟨wk2.2.1 (by omega), ?_⟩
        have : ds.drop i = [] := List.drop_eq_nil_of_le (by omega)
        rw [this] at hr
        have hr' : some [] = some zs := hr
        cases hr'
        rw [List.append_nil] at hys
        subst hys
        exact p1 (.ref D0) Hf2 H2 (g1.trans g2) ⟨D0, rfl, g1.up.free hD, fD, .inl ⟨av, _, rfl, hD2, ra⟩⟩
theorem ev_comp {scope : Scope} {own : List (Str × Nat)} {tv : List Nat} {put : D → Slots → Option Slots} {mi : Slots → Rs (List D)} {mt : Slots → Rs Bool} {me : Slots → Rs EV} (hc : X.calm = true) (hN : X.N.Nodup) (hi : PI X tg iter (tI X.K ca W mi)) (ok : BlkOk X.N X.env.scope scope own)
    (hg : ∀ (s : Shared) (H : Hp) (C : Addr) (cl : List (Str × Addr)) (fp : List Addr), PG (X.blk s H scope (compEnvC scope cl C X.env) fp) tg (tG X.K tv put)) (ht : ∀ (s : Shared) (H : Hp) (C : Addr) (cl : List (Str × Addr)) (fp : List Addr), PTs (X.blk s H scope (compEnvC scope cl C X.env) fp) ifs (tT X.K ca W0 mt))
    (he : ∀ (s : Shared) (H : Hp) (C : Addr) (cl : List (Str × Addr)) (fp : List Addr), PE (X.blk s H scope (compEnvC scope cl C X.env) fp) elt (tE X.K ca W0 me)) (hs : ∀ x, foldedSetIterable iter X.env x = pure x) (sub : ∀ i ∈ tv, i ∈ own.map (·.2)) :
    PE X (.ListComp elt [⟨tg, iter, ifs, 0⟩] scope pos) (tEX X ca W (mComp mi put mt me (own.map (·.2)))) := PE.imp (pe_lc hc hN hi ok hg ht he hs) (lc_of sub)
end
end DV

namespace DV
open PySem PySem.Spec PyProof.Rows L2
section
variable (K : PySem.W.Frag) (ca : Nat → Addr) (W : WX)
/-- what is wanted behind a statement that ends as r -/
def FlPost (H0 : Hp × Hp) (Hf : Hp) (r : Option Fl) (E : Ends) : Prop :=
  match r with
  | some (.nx s') => ∀ σ' Hf' ow' H', Same Hf Hf' → Ok K H0 Hf' ow' H' σ' s' → E.nx σ' H'
  | some (.bk s') => ∀ σ' Hf' ow' H', Same Hf Hf' → Ok K H0 Hf' ow' H' σ' s' → E.bk σ' H'
  | some (.ct s') => ∀ σ' Hf' ow' H', Same Hf Hf' → Ok K H0 Hf' ow' H' σ' s' → E.ct σ' H'
  | some (.rt v) => ∀ u Hf' H', Grow H0.1 H0.2 Hf' H' → RN K H0.2 Hf' H' u v → E.rt u H'
  | some (.ex x s') => ∀ c d σ' Hf' ow' H', Same Hf Hf' → Ok K H0 Hf' ow' H' σ' s' → XR ca c d x → W c d σ' H'
  | none => False
def tS (m : Slots → Option Fl) : TS := fun E σ H => ∃ H0 Hf ow s, Ok K H0 Hf ow H σ s ∧ FlPost K ca W H0 Hf (m s) E
end
section
variable {K : PySem.W.Frag} {ca : Nat → Addr} {W : WX} {H0 : Hp × Hp} {Hf Hf1 H H1 : Hp} {ow : Addr → Option Nat} {σ : L2.St} {s : Slots} {E E' : Ends} {r : Option Fl}
theorem FlPost.shift (h : FlPost K ca W H0 Hf r E) (q : Same Hf Hf1) : FlPost K ca W H0 Hf1 r E := by
  cases r with
  | none => exact h
  | some f =>
    cases f with
    | nx s' => exact fun σ' Hf' ow' H' s1 o => h σ' Hf' ow' H' (q.trans s1) o
    | bk s' => exact fun σ' Hf' ow' H' s1 o => h σ' Hf' ow' H' (q.trans s1) o
    | ct s' => exact fun σ' Hf' ow' H' s1 o => h σ' Hf' ow' H' (q.trans s1) o
    | rt v => exact h
    | ex x s' => exact fun c d σ' Hf' ow' H' s1 o => h c d σ' Hf' ow' H' (q.trans s1) o
/-- an expression within a statement -/
theorem FlPost.lift {α β : Type} {Rel : Hp → Hp → Hp → β → α → Prop} {m : Rs α} {f : α → Option Fl} {Q1 : β → Hp → Prop} (o : Ok K H0 Hf ow H σ s) (h : FlPost K ca W H0 Hf (DV.lift s m f) E)
    (k : ∀ a b Hf1 H1, Grow Hf H Hf1 H1 → Rel H Hf1 H1 b a → FlPost K ca W H0 Hf (f a) E → Q1 b H1) : Post ca W Rel Hf H σ m Q1 := by
  cases m with
  | st => exact h
  | ok a => exact fun b Hf1 H1 g q => k a b Hf1 H1 g q h
  | ex x => exact fun c d Hf' H' g q => h c d σ Hf' ow H' g.fup (o.grow g) q
/-- a slot is given a list or dict of its own -/
theorem Ok.setOwn {d : D} {i : Nat} {p : Addr} (o : Ok K H0 Hf1 ow H1 σ s) (ho : ∀ a, ow a ≠ none → a ≠ p) (hb : H0.2 p = none) (hf : Hf1 p = none) (t : TopR K Hf1 H1 p d) :
    Ok K H0 Hf1 (fun a => if a = p then some i else if ow a = some i then none else ow a) H1 (σ.set i (some (.ref p))) (s.set i (some (.own d))) := by
  refine ⟨o.gr, fun a h => ?_, by rw [List.length_set, List.length_set]; exact o.len, fun j v e => ?_⟩
  · have h : (if a = p then some i else if ow a = some i then none else ow a) ≠ none := h
    by_cases z : a = p
    · subst z; exact ⟨hf, t.there, hb⟩
    · rw [if_neg z] at h
      by_cases z2 : ow a = some i
      · rw [if_pos z2] at h; exact absurd rfl h
      · rw [if_neg z2] at h; exact o.own a h
  · rcases slots_get e with ⟨rfl, e, hl⟩ | ⟨hj, e⟩
    · cases e
      exact ⟨.ref p, List.getElem?_set_self (by rw [o.len]; exact hl), p, rfl, if_pos rfl, t⟩
    · obtain ⟨w, e1, r1⟩ := o.at_ j v e
      refine ⟨w, by rw [List.getElem?_set_ne (Ne.symm hj)]; exact e1, ?_⟩
      cases v with
      | dat d' => exact r1
      | own d' =>
        obtain ⟨q, e2, e3, t2⟩ := r1
        have hq : q ≠ p := ho q (by rw [e3]; exact fun z => nomatch z)
        refine ⟨q, e2, ?_, t2⟩
        show (if q = p then some i else if ow q = some i then none else ow q) = some j
        rw [if_neg hq, if_neg (by rw [e3]; exact fun z => hj (Option.some.inj z)), e3]
/-- what a slot held alone is kept as it is from now on -/
theorem Ok.frz (o : Ok K H0 Hf ow H σ s) (i : Nat) : ∃ Hf' ow', Same Hf Hf' ∧ Ok K H0 Hf' ow' H σ (frzS i s) := by
  unfold frzS
  split
  · rename_i d e
    obtain ⟨u, e1, p, rfl, hp, t⟩ := o.at_ i _ e
    obtain ⟨hf, _, hb⟩ := o.own p (by rw [hp]; exact fun z => nomatch z)
    obtain ⟨ob, hH, rd⟩ : ∃ ob, H p = some ob ∧ ∀ Hf', Same Hf Hf' → Hf' p = some ob → Rp K Hf' (.ref p) d := by
      rcases t with ⟨xs, ds, rfl, hp2, q⟩ | ⟨ks, ds, rfl, hp2, q⟩
      · exact ⟨_, hp2, fun Hf' s1 h1 => .lst (.inl (.inl h1)) (q.mono s1)⟩
      · exact ⟨_, hp2, fun Hf' s1 h1 => .dct ⟨ks, .inl h1, rfl⟩ (q.mono s1)⟩
    obtain ⟨s1, s2⟩ := Grow.fix o.fr hH
    refine ⟨upd Hf p ob, fun a => if a = p then none else ow a, s1, ⟨o.gr.up, o.gr.fup.trans s1, s2, fun a h1 h2 => ?_⟩, fun a h => ?_, by rw [List.length_set]; exact o.len, fun j v e2 => ?_⟩
    · rw [upd_ne (fun z => h1 (by rw [z]; exact hb))]
      exact o.gr.nof a h1 h2
    · have h : (if a = p then none else ow a) ≠ none := h
      by_cases z : a = p
      · rw [if_pos z] at h; exact absurd rfl h
      · rw [if_neg z] at h
        obtain ⟨h1, h2, h3⟩ := o.own a h
        exact ⟨by rw [upd_ne z]; exact h1, h2, h3⟩
    · rcases slots_get e2 with ⟨rfl, e2, hl⟩ | ⟨hj, e2⟩
      · cases e2
        exact ⟨.ref p, e1, rd _ s1 upd_same⟩
      · obtain ⟨w, e3, r1⟩ := o.at_ j v e2
        refine ⟨w, e3, ?_⟩
        cases v with
        | dat d' => exact Rp.mono s1 (show Rp K Hf w d' from r1)
        | own d' =>
          obtain ⟨q, e4, e5, t2⟩ := r1
          have hq : q ≠ p := fun z => hj (by rw [z, hp] at e5; exact (Option.some.inj e5).symm)
          refine ⟨q, e4, (by show (if q = p then none else ow q) = some j; rw [if_neg hq]; exact e5), ?_⟩
          rcases t2 with ⟨xs, ds, e, h, r⟩ | ⟨ks, ds, e, h, r⟩
          · exact .inl ⟨xs, ds, e, h, r.mono s1⟩
          · exact .inr ⟨ks, ds, e, h, r.mono s1⟩
  · exact ⟨Hf, ow, Same.refl _, o⟩
end
theorem PS.imp {X : Cx} {e : Stmt} {t t' : TS} (h : PS X e t) (i : ∀ E σ H, t' E σ H → t E σ H) : PS X e t' := ⟨fun pins s σ H E I q => h.run pins s σ H E I (i E σ H q)⟩
theorem PSs.imp {X : Cx} {e : List Stmt} {t t' : TS} (h : PSs X e t) (i : ∀ E σ H, t' E σ H → t E σ H) : PSs X e t' := ⟨fun pins s σ H E I q => h.run pins s σ H E I (i E σ H q)⟩
section
variable {X : Cx} {ca : Nat → Addr} {W : WX} {st : Stmt} {rest body : List Stmt} {pos : Pos} {m mr mb : Slots → Option Fl} {me : Slots → Rs EV} {a : Expr}
abbrev tSX (X : Cx) (ca : Nat → Addr) (W : WX) := tS X.K ca W
theorem ss_nil : PSs X [] (tSX X ca W fun s => some (.nx s)) := PSs.imp pss_nil fun E σ H ⟨H0, Hf, ow, s, o, p⟩ => p σ Hf ow H (Same.refl _) o
theorem ss_cons (h1 : PS X st (tSX X ca W m)) (h2 : PSs X rest (tSX X ca W mr)) : PSs X (st :: rest) (tSX X ca W fun s => andThen (m s) mr) := by
  refine PSs.imp (pss_cons h1 h2) fun E σ H ⟨H0, Hf, ow, s, o, p⟩ => ?_
  refine ⟨H0, Hf, ow, s, o, ?_⟩
  dsimp only at p
  cases e : m s with
  | none => rw [e] at p; exact p
  | some f =>
    rw [e] at p
    cases f with
    | nx s' => exact fun σ' Hf' ow' H' s1 o' => ⟨H0, Hf', ow', s', o', FlPost.shift (show FlPost X.K ca W H0 Hf (mr s') E from p) s1⟩
    | bk s' => exact p
    | ct s' => exact p
    | rt v => exact p
    | ex x s' => exact p
theorem ss_frz (i : Nat) (h : PSs X rest (tSX X ca W m)) : PSs X rest (tSX X ca W fun s => m (frzS i s)) :=
  PSs.imp h fun E σ H ⟨H0, Hf, ow, s, o, p⟩ => by
    obtain ⟨Hf', ow', s1, o'⟩ := o.frz i
    exact ⟨H0, Hf', ow', _, o', FlPost.shift p s1⟩
theorem s_pass : PS X (.Pass pos) (tSX X ca W fun s => some (.nx s)) := PS.imp ps_pass fun E σ H ⟨H0, Hf, ow, s, o, p⟩ => p σ Hf ow H (Same.refl _) o
theorem s_brk : PS X (.Break pos) (tSX X ca W fun s => some (.bk s)) := PS.imp ps_break fun E σ H ⟨H0, Hf, ow, s, o, p⟩ => p σ Hf ow H (Same.refl _) o
theorem s_cnt : PS X (.Continue pos) (tSX X ca W fun s => some (.ct s)) := PS.imp ps_continue fun E σ H ⟨H0, Hf, ow, s, o, p⟩ => p σ Hf ow H (Same.refl _) o
/-- x = e -/
theorem s_set {i : Nat} (h : PS X st (tAsg (tEX X ca W me) (gName i))) : PS X st (tSX X ca W fun s => DV.lift s (me s) fun v => asgS (.var i) v s) := by
  refine PS.imp h fun E σ H ⟨H0, Hf, ow, s, o, p⟩ => ?_
  refine ⟨H0, Hf, ow, s, o, FlPost.lift o p fun v u Hf1 H1 g r p1 => ?_⟩
  have o1 := o.grow g
  cases v with
  | dat d => exact p1 (σ.set i (some u)) Hf1 ow H1 g.fup (o1.setDat r)
  | own d => exact p1.elim
  | new d =>
    obtain ⟨q, rfl, hb, hf, t⟩ := r
    exact p1 _ Hf1 _ H1 g.fup (o1.setOwn (fun a h z => (o.own a h).2.1 (by rw [z]; exact hb)) (o.gr.up.free hb) hf t)
/-- a, b = e -/
theorem s_unpack {tg : Expr} {ts : Tgs} {vs : List Nat} (he : PE X a (tEX X ca W me)) (hg : PG X tg (tG X.K vs (Tg.tup ts).put)) (hs : swapsWithSole [tg] a pos.line X.env = pure false) (hw : swappedStores [tg] a X.env = pure none) (h1 : (assignEach [tg] X.env).map (·.2) = [assign tg X.env]) :
    PS X (.Assign [tg] a pos) (tSX X ca W fun s => DV.lift s (me s) fun v => asgS (.tup ts) v s) := by
  refine PS.imp (ps_asg he hg hs hw h1) fun E σ H ⟨H0, Hf, ow, s, o, p⟩ => ?_
  refine ⟨H0, Hf, ow, s, o, FlPost.lift o p fun v u Hf1 H1 g r p1 => ?_⟩
  have o1 := o.grow g
  have p2 : FlPost X.K ca W H0 Hf (match (Tg.tup ts).put v.d s with | some s' => some (.nx s') | none => none) E := p1
  have notTup : ∀ d, (∀ ds, d ≠ .tuple ds) → (Tg.tup ts).put d s = none := fun d h => by
    cases d with
    | tuple ds => exact absurd rfl (h ds)
    | _ => rfl
  have rr : (∃ d, v = .dat d) ∨ (Tg.tup ts).put v.d s = none := by
    cases v with
    | dat d => exact .inl ⟨d, rfl⟩
    | own d =>
      right
      obtain ⟨i, q, _, _, t⟩ := r
      rcases t with ⟨xs, ds, rfl, _⟩ | ⟨ks, ds, rfl, _⟩
      · exact notTup _ fun _ => fun z => nomatch z
      · exact notTup _ fun _ => fun z => nomatch z
    | new d =>
      right
      obtain ⟨q, _, _, _, t⟩ := r
      rcases t with ⟨xs, ds, rfl, _⟩ | ⟨ks, ds, rfl, _⟩
      · exact notTup _ fun _ => fun z => nomatch z
      · exact notTup _ fun _ => fun z => nomatch z
  rcases rr with ⟨d, rfl⟩ | e
  · refine ⟨H0, Hf1, ow, s, d, o1, r, ?_⟩
    have p3 : FlPost X.K ca W H0 Hf (match (Tg.tup ts).put d s with | some s' => some (.nx s') | none => none) E := p2
    cases e : (Tg.tup ts).put d s with
    | none => rw [e] at p3; exact p3.elim
    | some s' => rw [e] at p3; exact fun σ' o' _ => p3 σ' Hf1 ow H1 g.fup o'
  · rw [e] at p2; exact p2.elim
theorem s_expr (he : PE X a (tEX X ca W me)) (hs : swapsWith a none pos.line X.env = pure false) : PS X (.Expr a pos) (tSX X ca W fun s => DV.lift s (me s) fun _ => some (.nx s)) := by
  refine PS.imp (ps_expr he hs) fun E σ H ⟨H0, Hf, ow, s, o, p⟩ => ?_
  exact ⟨H0, Hf, ow, s, o, FlPost.lift o p fun v u Hf1 H1 g r p1 => p1 σ Hf1 ow H1 g.fup (o.grow g)⟩
theorem s_ret (he : PE X a (tEX X ca W me)) : PS X (.Return (some a) pos) (tSX X ca W fun s => DV.lift s (me s) fun v => some (.rt v.give)) := by
  refine PS.imp (ps_ret he) fun E σ H ⟨H0, Hf, ow, s, o, p⟩ => ?_
  refine ⟨H0, Hf, ow, s, o, FlPost.lift o p fun v u Hf1 H1 g r p1 => ?_⟩
  refine p1 u Hf1 H1 (o.gr.trans g) ?_
  cases v with
  | dat d => exact r
  | new d =>
    obtain ⟨q, e, hb, hf, t⟩ := r
    exact ⟨q, e, o.gr.up.free hb, hf, t⟩
  | own d =>
    obtain ⟨i, q, e, hq, t⟩ := r
    obtain ⟨_, _, hb⟩ := o.own q (by rw [hq]; exact fun z => nomatch z)
    exact ⟨q, e, hb, ((o.grow g).own q (by rw [hq]; exact fun z => nomatch z)).1, t⟩
theorem s_retN : PS X (.Return none pos) (tSX X ca W fun s => some (.rt (.dat .none))) :=
  PS.imp ps_retN fun E σ H ⟨H0, Hf, ow, s, o, p⟩ => p .non Hf H o.gr .non
theorem s_if {c : Expr} {x y : List Stmt} {mc : Slots → Rs Bool} {mx my : Slots → Option Fl} (hc : PT X c (tT X.K ca W mc)) (hx : PSs X x (tSX X ca W mx)) (hy : PSs X y (tSX X ca W my)) :
    PS X (.If c x y pos) (tSX X ca W fun s => DV.lift s (mc s) fun k => if k then mx s else my s) := by
  refine PS.imp (ps_if hc hx hy) fun E σ H ⟨H0, Hf, ow, s, o, p⟩ => ?_
  refine ⟨H0, Hf, ow, s, o, FlPost.lift o p fun k u Hf1 H1 g r p1 => ?_⟩
  subst r
  cases u with
  | true => exact ⟨H0, Hf1, ow, s, o.grow g, FlPost.shift p1 g.fup⟩
  | false => exact ⟨H0, Hf1, ow, s, o.grow g, FlPost.shift p1 g.fup⟩
/-- an own object is changed -/
theorem Ok.change {K : PySem.W.Frag} {H0 : Hp × Hp} {Hf H : Hp} {ow : Addr → Option Nat} {σ : L2.St} {s : Slots} {i : Nat} {p : Addr} {ob : HO} {d d' : D} (o : Ok K H0 Hf ow H σ s) (hp : ow p = some i) (hs : σ[i]? = some (some (.ref p))) (t : TopR K Hf (upd H p ob) p d') :
    Ok K H0 Hf ow (upd H p ob) σ (s.set i (some (.own d'))) := by
  obtain ⟨hf, hH, hb⟩ := o.own p (by rw [hp]; exact fun z => nomatch z)
  refine ⟨⟨fun a x e => ?_, o.gr.fup, fun a x e => ?_, o.gr.nof⟩, fun a h => ?_, by rw [List.length_set]; exact o.len, fun j v e => ?_⟩
  · rw [upd_ne (ne_of_none e hb)]; exact o.gr.up a x e
  · rw [upd_ne (ne_of_none e hf)]; exact o.gr.sub a x e
  · obtain ⟨h1, h2, h3⟩ := o.own a h
    refine ⟨h1, ?_, h3⟩
    by_cases z : a = p
    · subst z; rw [upd_same]; exact fun z => nomatch z
    · rw [upd_ne z]; exact h2
  · rcases slots_get e with ⟨rfl, e, hl⟩ | ⟨hj, e⟩
    · cases e
      exact ⟨.ref p, hs, p, rfl, hp, t⟩
    · obtain ⟨w, e1, r1⟩ := o.at_ j v e
      refine ⟨w, e1, ?_⟩
      cases v with
      | dat d' => exact r1
      | own d' =>
        obtain ⟨q, e2, e3, t2⟩ := r1
        have hq : q ≠ p := fun z => hj (by rw [z, hp] at e3; exact (Option.some.inj e3).symm)
        refine ⟨q, e2, e3, ?_⟩
        rcases t2 with ⟨xs, ds, e, h, r⟩ | ⟨ks, ds, e, h, r⟩
        · exact .inl ⟨xs, ds, e, by rw [upd_ne hq]; exact h, r⟩
        · exact .inr ⟨ks, ds, e, by rw [upd_ne hq]; exact h, r⟩
theorem ownL_at {i : Nat} {s : Slots} {xs : List D} (h : ownL i s = some xs) : s[i]? = some (some (.own (.list xs))) := by
  unfold ownL at h
  split at h
  · rename_i e; cases h; exact e
  · cases h
/-- x.append(e), x in the slot i -/
theorem s_app {i : Nat} {e : Expr} (h : PE X e (tBM X.K "list" rAppend (tVar i) (tF X.K ca W fun s => do let x ← me s; let d ← ofO x.fix; let ds ← Rs.ok []; .ok (d :: ds)))) (hs : swapsWith e none pos.line X.env = pure false) :
    PS X (.Expr e pos) (tSX X ca W fun s => match ownL i s with
      | some xs => DV.lift s (me s) fun v => DV.lift s (ofO v.fix) fun d => appS i xs d s
      | none => none) := by
  refine PS.imp (ps_expr h hs) fun E σ H ⟨H0, Hf, ow, s, o, p⟩ => ?_
  have p : FlPost X.K ca W H0 Hf (match ownL i s with
      | some xs => DV.lift s (me s) fun v => DV.lift s (ofO v.fix) fun d => appS i xs d s
      | none => none) E := p
  cases hx : ownL i s with
  | none => rw [hx] at p; exact p.elim
  | some xs =>
    rw [hx] at p
    obtain ⟨u, e1, q, rfl, hq, t⟩ := o.at_ i _ (ownL_at hx)
    rcases t with ⟨av, ds, ee, hH, ra⟩ | ⟨ks, ds, ee, _⟩
    · cases ee
      refine ⟨.ref q, e1, .inl ⟨rfl, av, .inl (.inl hH)⟩, H0, Hf, ow, s, o, ?_⟩
      have p : FlPost X.K ca W H0 Hf (DV.lift s (me s) fun v => DV.lift s (ofO v.fix) fun d => appS i xs d s) E := p
      cases em : me s with
      | st => rw [em] at p; exact p.elim
      | ex x =>
        rw [em] at p
        show Post ca W _ Hf H σ (me s >>= fun x => ofO x.fix >>= fun d => (Rs.ok [] >>= fun ds => Rs.ok (d :: ds))) _
        rw [em]
        exact fun c d Hf' H' g r => p c d σ Hf' ow H' g.fup (o.grow g) r
      | ok v =>
        rw [em] at p
        cases ef : v.fix with
        | none => have p2 : FlPost X.K ca W H0 Hf (DV.lift s (ofO v.fix) fun d => appS i xs d s) E := p; rw [ef] at p2; exact p2.elim
        | some d =>
          have p2 : FlPost X.K ca W H0 Hf (DV.lift s (ofO v.fix) fun d => appS i xs d s) E := p
          rw [ef] at p2
          have p3 : FlPost X.K ca W H0 Hf (if decide (xs.length < 16777216) = true then some (.nx (s.set i (some (.own (.list (xs ++ [d])))))) else none) E := p2
          show Post ca W _ Hf H σ (me s >>= fun x => ofO x.fix >>= fun d => (Rs.ok [] >>= fun ds => Rs.ok (d :: ds))) _
          rw [em]
          show Post ca W _ Hf H σ (ofO v.fix >>= fun d => (Rs.ok [] >>= fun ds => Rs.ok (d :: ds))) _
          rw [ef]
          intro us Hf1 H1 g r
          split at p3
          · rename_i hz
            cases r with
            | @cons y yr _ _ r1 r2 =>
              cases r2
              have hH1 : H1 q = some (.lst av) := g.up _ _ hH
              have o1 := o.grow g
              refine ⟨q, av, y, rfl, rfl, hH1, by rw [ra.length, sizeLine_eq]; exact of_decide_eq_true hz, ?_⟩
              exact p3 σ Hf1 ow _ g.fup (o1.change (d := .list xs) hq e1 (.inl ⟨_, _, rfl, upd_same, (ra.mono g.fup).append (.cons r1 .nil)⟩))
          · exact p3.elim
    · cases ee
end
end DV

namespace DV
open PySem PySem.Spec PyProof.Rows L2
section
variable {X : Cx} {ca : Nat → Addr} {W : WX} {st : Stmt} {rest body : List Stmt} {pos : Pos} {m mr mb : Slots → Option Fl} {me : Slots → Rs EV} {a : Expr}
/-! for -/
structure Turns (K : PySem.W.Frag) (ca : Nat → Addr) (W : WX) (H0 : Hp × Hp) (Hf1 : Hp) (rest : List D → Slots → Option Fl) (ds : List D) (E : Ends) (i : Nat) (σ : L2.St) (H : Hp) : Prop where
  ex : ∃ Hf ow s, Same Hf1 Hf ∧ Ok K H0 Hf ow H σ s ∧ FlPost K ca W H0 Hf (rest (ds.drop i) s) E
theorem s_for {tg iter : Expr} {vs : List Nat} {put : D → Slots → Option Slots} {mi : Slots → Rs (List D)} (hp : PassesOwn (model X.prog X.w) X.A X.env X.xe) (hc : X.calm = true) (hi : PI X tg iter (tIF X.K ca W mi)) (hg : PG X tg (tG X.K vs put)) (hb : PSs X body (tSX X ca W mb))
    (hs : ∀ x, foldedSetIterable iter X.env x = pure x) : PS X (.For tg iter body [] pos) (tSX X ca W fun s => DV.lift s (mi s) fun ds => forL put mb ds s) := by
  refine PS.imp (ps_for hp hc hi hg hb hs) fun E σ H ⟨H0, Hf, ow, s, o, p⟩ => ?_
  refine ⟨H0, Hf, ow, s, o, FlPost.lift o p fun ds J Hf1 H1 g wk p1 => ?_⟩
  refine ⟨fun i m σ H => m = ds.length - i ∧ i ≤ ds.length ∧ Turns X.K ca W H0 Hf1 (forL put mb) ds E i σ H, ⟨ds.length, by simp, Nat.zero_le _, ⟨⟨Hf1, ow, s, Same.refl _, o.grow g, (by rw [List.drop_zero]; exact FlPost.shift p1 g.fup)⟩⟩⟩, ?_⟩
  rintro i m σ2 H2 ⟨rfl, hi2, ⟨⟨Hf2, ow2, s2, sf, o2, p2⟩⟩⟩
  have wk2 := wk i Hf2 H2 sf o2.fr (sf.trans o2.fr)
  by_cases hlt : i < ds.length
  · refine .inr ⟨wk2.1 hlt, fun σ' H' => Turns X.K ca W H0 Hf1 (forL put mb) ds E (i + 1) σ' H', fun σ' H' q => ⟨ds.length - (i + 1), by omega, rfl, hlt, q⟩, fun x H3 y => ?_⟩
    have ed : ds[i]? = some ds[i] := List.getElem?_eq_getElem hlt
    obtain ⟨Hf3, g3, rx⟩ := wk2.2.2 _ ed x H3 y
    rw [List.drop_eq_getElem_cons hlt] at p2
    have o3 := o2.grow g3
    refine ⟨H0, Hf3, ow2, s2, ds[i], o3, rx, ?_⟩
    unfold forL at p2
    cases e1 : put ds[i] s2 with
    | none => rw [e1] at p2; exact p2.elim
    | some s3 =>
      rw [e1] at p2
      intro σ4 o4 _
      refine ⟨H0, Hf3, ow2, s3, o4, ?_⟩
      dsimp only at p2
      have p3 := FlPost.shift p2 g3.fup
      cases e2 : mb s3 with
      | none => rw [e2] at p3; exact p3
      | some f =>
        rw [e2] at p3
        cases f with
        | nx s4 => exact fun σ' Hf' ow' H' s1 o' => ⟨⟨Hf', ow', s4, (sf.trans g3.fup).trans s1, o', FlPost.shift p3 s1⟩⟩
        | ct s4 => exact fun σ' Hf' ow' H' s1 o' => ⟨⟨Hf', ow', s4, (sf.trans g3.fup).trans s1, o', FlPost.shift p3 s1⟩⟩
        | bk s4 => exact p3
        | rt v => exact p3
        | ex x s4 => exact p3
  · refine .inl ⟨wk2.2.1 (by omega), ?_⟩
    have : ds.drop i = [] := List.drop_eq_nil_of_le (by omega)
    rw [this] at p2
    exact p2 σ2 Hf2 ow2 H2 (Same.refl _) o2
/-! while -/
theorem s_while {c : Expr} {mc : Slots → Rs Bool} (n : Nat) (hp : PassesOwn (model X.prog X.w) X.A X.env X.xe) (hc : PT X c (tT X.K ca W mc)) (hb : PSs X body (tSX X ca W mb)) : PS X (.While c body [] pos) (tSX X ca W fun s => whlL mc mb n s) := by
  refine PS.imp (ps_while hp hc hb) fun E σ H ⟨H0, Hf, ow, s, o, p⟩ => ?_
  refine ⟨fun k σ H => ∃ Hf ow s, Ok X.K H0 Hf ow H σ s ∧ FlPost X.K ca W H0 Hf (whlL mc mb k s) E, ⟨n, Hf, ow, s, o, p⟩, ?_⟩
  rintro k σ2 H2 ⟨Hf2, ow2, s2, o2, p2⟩
  cases k with
  | zero => exact p2.elim
  | succ k =>
    unfold whlL at p2
    refine ⟨H0, Hf2, ow2, s2, o2, FlPost.lift o2 p2 fun b u Hf3 H3 g r p3 => ?_⟩
    subst r
    cases u with
    | false => exact p3 σ2 Hf3 ow2 H3 g.fup (o2.grow g)
    | true =>
      refine ⟨fun σ' H' => ∃ Hf ow s, Ok X.K H0 Hf ow H' σ' s ∧ FlPost X.K ca W H0 Hf (whlL mc mb k s) E, fun σ' H' q => ⟨k, Nat.lt_succ_self _, q⟩, H0, Hf3, ow2, s2, o2.grow g, ?_⟩
      have p4 := FlPost.shift p3 g.fup
      rw [if_pos rfl] at p4
      cases e2 : mb s2 with
      | none => rw [e2] at p4; exact p4
      | some f =>
        rw [e2] at p4
        cases f with
        | nx s4 => exact fun σ' Hf' ow' H' s1 o' => ⟨Hf', ow', s4, o', FlPost.shift p4 s1⟩
        | ct s4 => exact fun σ' Hf' ow' H' s1 o' => ⟨Hf', ow', s4, o', FlPost.shift p4 s1⟩
        | bk s4 => exact p4
        | rt v => exact p4
        | ex x s4 => exact p4
/-! name op= e, ints -/
theorem s_aug {i : Nat} {op : Operator} {f : Int → Int → Int} {g : D → D → Option EV} (h : PS X st (tAug i (tEX X ca W me) (ipI f))) (hg : ∀ x y z, g x y = some z → ∃ i j, x = .int i ∧ y = .int j ∧ z = .dat (.int (f i j))) :
    PS X st (tSX X ca W fun s => DV.lift s (getS s i) fun x => DV.lift s (me s) fun y => DV.lift s (ofO (g x.d y.d)) fun z => match z with
      | .dat d => some (.nx (s.set i (some (.dat d))))
      | _ => none) := by
  refine PS.imp h fun E σ H ⟨H0, Hf, ow, s, o, p⟩ => ?_
  have p : FlPost X.K ca W H0 Hf (DV.lift s (getS s i) fun x => DV.lift s (me s) fun y => DV.lift s (ofO (g x.d y.d)) fun z => match z with
      | .dat d => some (.nx (s.set i (some (.dat d))))
      | _ => none) E := p
  unfold getS at p
  split at p
  · rename_i d e
    obtain ⟨u, e1, r⟩ := o.at_ i _ e
    refine ⟨u, e1, H0, Hf, ow, s, o, FlPost.lift o p fun y w Hf1 H1 g1 r1 p1 => ?_⟩
    have p1 : FlPost X.K ca W H0 Hf (DV.lift s (ofO (g d y.d)) fun z => match z with
      | .dat d => some (.nx (s.set i (some (.dat d))))
      | _ => none) E := p1
    cases eg : g d y.d with
    | none => rw [eg] at p1; exact p1.elim
    | some z =>
      rw [eg] at p1
      obtain ⟨k, j, rfl, ey, rfl⟩ := hg _ _ _ eg
      have ry := r1.rx
      rw [ey] at ry
      cases r
      exact ⟨k, j, rfl, ry.int, p1 _ Hf1 ow H1 g1.fup ((o.grow g1).setDat (.int _))⟩
  · rename_i d e
    obtain ⟨u, e1, q, rfl, hq, t⟩ := o.at_ i _ e
    refine ⟨.ref q, e1, H0, Hf, ow, s, o, FlPost.lift o p fun y w Hf1 H1 g1 r1 p1 => ?_⟩
    have p1 : FlPost X.K ca W H0 Hf (DV.lift s (ofO (g d y.d)) fun z => match z with
      | .dat d => some (.nx (s.set i (some (.dat d))))
      | _ => none) E := p1
    cases eg : g d y.d with
    | none => rw [eg] at p1; exact p1.elim
    | some z =>
      obtain ⟨k, j, rfl, ey, rfl⟩ := hg _ _ _ eg
      rcases t with ⟨xs, ds, e, _⟩ | ⟨ks, ds, e, _⟩ <;> cases e
  · exact p.elim
/-! raise -/
theorem s_raise {c : Nat} {e : Expr} (hc : X.calm = true) (tk : Takes X W) (hm : PMk X e (fun _ H Q => Q (.ref (ca c)) none H)) : PS X (.Raise (some e) none pos) (tSX X ca W fun s => some (.ex ⟨c, []⟩ s)) :=
  PS.imp (ps_raise hc tk hm) fun E σ H ⟨H0, Hf, ow, s, o, p⟩ => p _ _ σ Hf ow H (Same.refl _) o ⟨rfl, rfl, rfl⟩
/-! try -/
/-- a constant's value -/
def vd : D → V
  | .bool b => .bl b
  | .int i => .int i
  | .str x => .str x
  | _ => .non
/-- the clauses, their suites return constants -/
inductive HdsD (X : Cx) (ca : Nat → Addr) : Hds → List ExceptHandler → Prop where
  | nil : HdsD X ca .nil []
  | cons {c : Nat} {d : D} {r : Hds} {x : Str} {np pos' rp : Pos} {e : Expr} {hds : List ExceptHandler} (hc : Names X x (.ref (ca c))) (he : ∀ (a : Addr) (oe : Obj) (pn : List (Addr × Obj)), PE (X.suite a ((a, oe) :: pn)) e (tC (vd d))) (hv : ∀ Hf, Rp X.K Hf (vd d) d) (hr : HdsD X ca r hds) :
      HdsD X ca (.cons c d r) (.ExceptHandler (some (.Name x np)) none [.Return (some e) rp] pos' :: hds)
def hdsL (ca : Nat → Addr) : Hds → List (Value × (Addr → Value → Option Addr → TS))
  | .nil => []
  | .cons c d r => (.ref (ca c), fun _ _ _ => tRet (tC (vd d))) :: hdsL ca r
theorem hds_ok {hs : Hds} {l : List ExceptHandler} (h : HdsD X ca hs l) : HdsOk X l (hdsL ca hs) := by
  induction h with
  | nil => exact .nil
  | cons hc he hv hr ih => exact .cons hc (fun a oe cls d' pn _ _ => pss_one (ps_ret (he a oe pn))) ih
theorem s_try {hs : Hds} {h₀ : ExceptHandler} {hds : List ExceptHandler} {sub : Nat → Nat → Option Bool} (hsub : ∀ i j b, sub i j = some b → PySem.W.exmOne X.K (.ref (ca i)) (.ref (ca j)) = some b) (hst : X.stack = X.env :: X.outer) (hf : X.env.frame = some X.env.locals) (tk : Takes X W)
    (hb : ∀ (W : WX) (pn : List (Addr × Obj)) (xe : Value → Shared → Prop), Takes (X.tr pn xe) W → PassesOwn (model X.prog X.w) X.A X.env xe → PSs (X.tr pn xe) body (tS X.K ca W mb)) (hh : HdsD X ca hs (h₀ :: hds)) :
    PS X (.Try body (h₀ :: hds) [] [] pos) (tSX X ca W fun s => match mb s with
      | some (.ex x s') => match hs.pick sub x with
        | some (some d) => some (.rt (.dat d))
        | some none => some (.ex x s')
        | none => none
      | r => r) := by
  refine PS.imp (ps_try_many hst hf tk hb (hds_ok hh)) fun E σ H ⟨H0, Hf, ow, s, o, p⟩ => ?_
  refine ⟨H0, Hf, ow, s, o, ?_⟩
  dsimp only at p
  cases e : mb s with
  | none => rw [e] at p; exact p
  | some f =>
    rw [e] at p
    cases f with
    | nx s' => exact p
    | bk s' => exact p
    | ct s' => exact p
    | rt v => exact p
    | ex x s' =>
      intro c d σ' Hf' ow' H' s1 o' xr
      have go : ∀ (hs : Hds) (l : List ExceptHandler), HdsD X ca hs l → FlPost X.K ca W H0 Hf (match hs.pick sub x with
        | some (some d) => some (.rt (.dat d))
        | some none => some (.ex x s')
        | none => none) E → wMany X.K W E (hdsL ca hs) c d σ' H' := by
        intro hs l hk
        induction hk with
        | nil => exact fun q => q c d σ' Hf' ow' H' s1 o' xr
        | @cons c' d' r' x' np pos' rp e' hds' hc he hv hr ih =>
          intro q
          unfold Hds.pick at q
          obtain ⟨rfl, _, _⟩ := xr
          cases es : sub x.cls c' with
          | none => rw [es] at q; exact q.elim
          | some b =>
            rw [es] at q
            refine ⟨b, hsub _ _ _ es, fun eb a ha => ?_, fun eb => ?_⟩
            · subst eb
              exact q (vd d') Hf' H' o'.gr (hv Hf')
            · subst eb
              exact ih q
      exact go hs _ hh p
end
/-! ### a def's body -/
def retOf : Option Fl → Rs EV
  | some (.nx _) => .ok (.dat .none)
  | some (.rt v) => .ok v
  | some (.ex x _) => .ex x
  | _ => .st
section
variable {P : Program} {w : World} {K : PySem.W.Frag} {mg : Str → Option Value} {base : Heap} {ca : Nat → Addr}
theorem entry_ok {N : List Str} {vs : List V} {ds : List D} {Hf H : Hp} (f : Same Hf H) (r : RpAll K Hf vs ds) : Ok K (Hf, H) Hf (fun _ => none) H (L2.start N vs) (entry N.length ds) := by
  refine ⟨Grow.refl f, fun a h => absurd rfl h, ?_, fun i v e => ?_⟩
  · unfold L2.start entry
    simp only [List.length_append, List.length_map, List.length_replicate]
    rw [r.length]
  · unfold entry at e
    by_cases hi : i < ds.length
    · rw [List.getElem?_append_left (by simpa using hi), List.getElem?_map, List.getElem?_eq_getElem hi] at e
      cases e
      obtain ⟨u, e1, r1⟩ := r.get (List.getElem?_eq_getElem hi)
      refine ⟨u, ?_, r1⟩
      have hl : i < vs.length := by rw [r.length]; exact hi
      unfold L2.start
      rw [List.getElem?_append_left (by simpa using hl), List.getElem?_map, e1]
      rfl
    · rw [List.getElem?_append_right (by simpa using hi), List.getElem?_replicate] at e
      split at e <;> cases e
/-- a def keeps its promise by its body -/
theorem fn_spD {x qual : Str} {st : Stmt} {f : Addr} {fd : FuncData} {N ps : List Str} {k n : Nat} {mb : Slots → Option Fl} (F : Fun K x qual st f fd) (S : FnScope N ps (defScope st)) (hn : ps.length = n)
    (hbody : ∀ (X : Cx) (W : WX), X.prog = P → X.w = w → X.K = K → X.mg = mg → X.base = base → X.N = N → X.env.scope = defScope st → X.calm = true → X.stack = X.env :: X.outer → X.env.frame = some X.env.locals → (∀ x, X.fn x = true) → Room k X.A → Takes X W → PassesOwn (model X.prog X.w) X.A X.env X.xe → PSs X (defBody st) (tS X.K ca W mb)) :
    FnOk P w K mg base (L2.CX P w) (k + 1) f fd ps (spD K ca n fun ds => outcome (mb (entry N.length ds))) := by
  refine F.okX S (fun vs H Q E h => ?_) fun cdv A outer s H vs Q E hr h => ?_
  · obtain ⟨Hf, ds, _, r, hl, _⟩ := h
    rw [r.length, hl, hn]
  · obtain ⟨Hf, ds, fr, r, hl, p⟩ := h
    refine ⟨_, hbody _ (fun c d _ H => E c d H) rfl rfl rfl rfl rfl rfl rfl rfl rfl rfl (fun _ => rfl) hr (takes_of rfl rfl rfl rfl) (passes_of rfl), (Hf, H), Hf, fun _ => none, entry N.length ds, entry_ok fr r, ?_⟩
    have p : FnPost K ca Hf H (outcome (mb (entry N.length ds))) Q E := p
    cases e : mb (entry N.length ds) with
    | none => rw [e] at p; exact p
    | some fl =>
      rw [e] at p
      cases fl with
      | nx s' => exact fun σ' Hf' ow' H' s1 o => p .non Hf' H' o.gr .non
      | bk s' => exact p.elim
      | ct s' => exact p.elim
      | rt v => exact p
      | ex x s' => exact fun c d σ' Hf' ow' H' s1 o xr => p c d Hf' H' o.gr xr
end
end DV

namespace DV
open PySem PySem.Spec PyProof.Rows L2
section
variable {X : Cx} {K : PySem.W.Frag} {Hf H : Hp}
theorem op_mulD : OpR X (binaryOp .Mult) (rPrim X.K mulD) := by
  intro pins s σ H x y v u Q I rx ry h
  obtain ⟨Hf, dx, dy, f, r1, r2, p⟩ := h
  unfold mulD at p
  split at p
  · split at p
    · rename_i i j hz
      exact op_mulX pins s σ H x y v u Q I rx ry ⟨i, j, r1.int, r2.int, hz, p _ Hf H (Grow.refl f) (.int _)⟩
    · exact p.elim
  · exact p.elim
theorem Rx.isNone {x : V} {d : D} (r : Rx K Hf H x d) : decide (x = .non) = isNone d := by
  rcases r with r | ⟨p, rfl, t⟩
  · cases r <;> rfl
  · rcases t with ⟨xs, ds, rfl, _⟩ | ⟨ks, ds, rfl, _⟩ <;> rfl
theorem isNone_non {d : D} (h : isNone d = true) : d = .none := by
  cases d <;> first | rfl | cases h
theorem op_isD : OpR X (compareOp .Is) (rCmp X.K (cmpD .isn)) := by
  intro pins s σ H x y v u Q I rx ry ⟨Hf, dx, dy, b, f, r1, r2, e, q⟩
  have e : (if isNone dy then some (isNone dx) else none) = some b := e
  split at e
  · rename_i hy
    cases e
    have := isNone_non hy
    subst this
    exact op_isN pins s σ H x y v u Q I rx ry ⟨r2.none, by rw [r1.isNone]; exact q⟩
  · cases e
theorem op_isnD : OpR X (compareOp .IsNot) (rCmp X.K (cmpD .isnn)) := by
  intro pins s σ H x y v u Q I rx ry ⟨Hf, dx, dy, b, f, r1, r2, e, q⟩
  have e : (if isNone dy then some (!isNone dx) else none) = some b := e
  split at e
  · rename_i hy
    cases e
    have := isNone_non hy
    subst this
    exact op_notN pins s σ H x y v u Q I rx ry ⟨r2.none, by rw [r1.isNone]; exact q⟩
  · cases e
end
section
variable {X : Cx} {ca : Nat → Addr} {W : WX} {tg a b : Expr} {pos : Pos} {ma mb : Slots → Rs EV}
/-- a written dict of the module -/
def MapIs (K : PySem.W.Frag) (w : World) (a : Addr) (kvs : List (Str × D)) : Prop := ∀ z d, kvs.lookup z = some d → ∃ v, KDct K w a z v ∧ ∀ Hf, Rp K Hf v d
theorem ev_mapix {x : Str} {p : Pos} {m : Addr} {kvs : List (Str × D)} (hg : Gl X x) (hm : X.mg x = some (.ref m)) (hd : (x == ("__debug__" : Str)) = false) (hM : MapIs X.K X.w m kvs) (hb : PE X b (tEX X ca W mb)) (hs : PlainIx b) :
    PE X (.Subscript (.Name x p) b pos) (tEX X ca W fun s => do let x ← mb s; ofO (mapD kvs x.d)) := by
  refine PE.imp (pe_ix ix_kdict (pe_glob (v := .ref m) hg hm rfl hd) hb hs) fun σ H Q ⟨H0, Hf, ow, s, o, p⟩ => ?_
  refine ⟨H0, Hf, ow, s, o, Post.bind p fun x u Hf1 H1 g1 r1 p1 => ?_⟩
  have r := r1.rx
  unfold mapD at p1
  split at p1
  · rename_i z e
    rw [e] at r
    split at p1
    · rename_i d e2
      obtain ⟨v, kd, rd⟩ := hM z d e2
      exact ⟨m, z, v, rfl, r.str, kd, p1 v Hf1 H1 g1 (rd Hf1)⟩
    · exact p1.elim
  · exact p1.elim
/-- list(range(..)) -/
def tR (K : PySem.W.Frag) (ca : Nat → Addr) (W : WX) (m : Slots → Rs (List D)) : L2.St → Hp → (Int → Int → Hp → Prop) → Prop := fun σ H Q => ∃ H0 Hf ow s, Ok K H0 Hf ow H σ s ∧
  Post ca W (fun _ _ _ ij ds => ds = rangeL ij.1 ij.2 ∧ -(2 ^ 62) ≤ ij.1 ∧ ij.1 < 2 ^ 62 ∧ -(2 ^ 62) ≤ ij.2 ∧ ij.2 < 2 ^ 62) Hf H σ (m s) (fun (ij : Int × Int) H => Q ij.1 ij.2 H)
theorem er_1 {p : Pos} (hg : Gl X "range") (hm : X.mg "range" = none) (ha : PE X a (tEX X ca W ma)) (hs : starEach [a] X.env = [(false, eval a X.env)]) :
    PRg X (.Call (.Name "range" p) [a] [] pos) (tR X.K ca W fun s => do
      let x ← ma s
      let j ← ofO (intD x.d)
      if decide (-(2 ^ 62) ≤ j) && decide (j < 2 ^ 62) then .ok (rangeL 0 j) else .st) := by
  intro pins s σ H Q I ⟨H0, Hf, ow, sl, o, p⟩
  refine prg_1 hg hm ha hs pins s σ H Q I ⟨H0, Hf, ow, sl, o, Post.bind p fun x u Hf1 H1 g1 r1 p1 => ?_⟩
  have r := r1.rx
  cases e : x.d with
  | int j =>
    rw [e] at p1 r
    have p2 : Post ca W (fun _ _ _ (ij : Int × Int) ds => ds = rangeL ij.1 ij.2 ∧ -(2 ^ 62) ≤ ij.1 ∧ ij.1 < 2 ^ 62 ∧ -(2 ^ 62) ≤ ij.2 ∧ ij.2 < 2 ^ 62) Hf H σ (if (decide (-(2 ^ 62) ≤ j) && decide (j < 2 ^ 62)) = true then Rs.ok (rangeL 0 j) else .st) (fun ij H => Q ij.1 ij.2 H) := p1
    split at p2
    · rename_i hz
      simp only [Bool.and_eq_true, decide_eq_true_eq] at hz
      exact ⟨j, r.int, p2 (0, j) Hf1 H1 g1 ⟨rfl, by omega, by omega, hz.1, hz.2⟩⟩
    · exact p2.elim
  | none => rw [e] at p1; exact p1.elim
  | bool _ => rw [e] at p1; exact p1.elim
  | str _ => rw [e] at p1; exact p1.elim
  | list _ => rw [e] at p1; exact p1.elim
  | tuple _ => rw [e] at p1; exact p1.elim
  | dict _ => rw [e] at p1; exact p1.elim
theorem er_2 {p : Pos} (hg : Gl X "range") (hm : X.mg "range" = none) (ha : PE X a (tEX X ca W ma)) (hb : PE X b (tEX X ca W mb)) (hs : starEach [a, b] X.env = [(false, eval a X.env), (false, eval b X.env)]) (hs2 : starEach [b] X.env = [(false, eval b X.env)]) :
    PRg X (.Call (.Name "range" p) [a, b] [] pos) (tR X.K ca W fun s => do
      let x ← ma s
      let y ← mb s
      let i ← ofO (intD x.d)
      let j ← ofO (intD y.d)
      if decide (-(2 ^ 62) ≤ i) && decide (i < 2 ^ 62) && decide (-(2 ^ 62) ≤ j) && decide (j < 2 ^ 62) then .ok (rangeL i j) else .st) := by
  intro pins s σ H Q I ⟨H0, Hf, ow, sl, o, p⟩
  refine prg_2 hg hm ha hb (by rw [hs, hs2]) hs2 (by rw [hs2]; rfl) pins s σ H Q I ?_
  refine two (Rel2 := fun _ _ _ _ (ij : Int × Int) ds => ds = rangeL ij.1 ij.2 ∧ -(2 ^ 62) ≤ ij.1 ∧ ij.1 < 2 ^ 62 ∧ -(2 ^ 62) ≤ ij.2 ∧ ij.2 < 2 ^ 62) (Q := fun ij H => Q ij.1 ij.2 H) o p (fun _ h => h) fun x y u w Hf2 H2 f2 _ r1 r2 p2 => ?_
  have q1 := r1.rx
  have q2 := r2.rx
  cases e : intD x.d with
  | none => rw [e] at p2; exact p2.elim
  | some i =>
    cases e2 : intD y.d with
    | none => rw [e, e2] at p2; exact p2.elim
    | some j =>
      rw [e, e2] at p2
      have ex : x.d = .int i := by
        revert e
        cases x.d <;> intro e <;> cases e
        rfl
      have ey : y.d = .int j := by
        revert e2
        cases y.d <;> intro e <;> cases e
        rfl
      rw [ex] at q1
      rw [ey] at q2
      have p3 : Post ca W (fun _ _ _ (ij : Int × Int) ds => ds = rangeL ij.1 ij.2 ∧ -(2 ^ 62) ≤ ij.1 ∧ ij.1 < 2 ^ 62 ∧ -(2 ^ 62) ≤ ij.2 ∧ ij.2 < 2 ^ 62) Hf2 H2 σ (if (decide (-(2 ^ 62) ≤ i) && decide (i < 2 ^ 62) && decide (-(2 ^ 62) ≤ j) && decide (j < 2 ^ 62)) = true then Rs.ok (rangeL i j) else .st) (fun ij H => Q ij.1 ij.2 H) := p2
      split at p3
      · rename_i hz
        simp only [Bool.and_eq_true, decide_eq_true_eq] at hz
        exact ⟨i, j, q1.int, q2.int, p3 (i, j) Hf2 H2 (Grow.refl f2) ⟨rfl, hz.1.1.1, hz.1.1.2, hz.1.2, hz.2⟩⟩
      · exact p3.elim
theorem rp_range {K : PySem.W.Frag} {H : Hp} (i j : Int) : RpAll K H (rgV i j) (rangeL i j) := by
  unfold rgV rangeL
  generalize List.range (j - i).toNat = l
  induction l with
  | nil => exact .nil
  | cons x r ih => exact .cons (.int _) ih
theorem rangeL_length (i j : Int) : (rangeL i j).length = (j - i).toNat := by unfold rangeL; rw [List.length_map, List.length_range]
theorem ev_lrange {p : Pos} {e : Expr} {mr : Slots → Rs (List D)} (hc : X.calm = true) (hg : Gl X "list") (hm : X.mg "list" = none) (he : PRg X e (tR X.K ca W mr)) (hs : starEach [e] X.env = (false, eval e X.env) :: starEach [] X.env) :
    PE X (.Call (.Name "list" p) [e] [] pos) (tEX X ca W fun s => do let ds ← mr s; if fits ds.length then .ok (.new (.list ds)) else .st) := by
  refine PE.imp (pe_listRg hc hg hm he hs) fun σ H Q ⟨H0, Hf, ow, s, o, p⟩ => ?_
  refine ⟨H0, Hf, ow, s, o, Post.bind p fun ds ij Hf1 H1 g1 r1 p1 => ?_⟩
  obtain ⟨rfl, h1, h2, h3, h4⟩ := r1
  split at p1
  · rename_i hz
    refine ⟨⟨h1, h2, h3, h4, ?_⟩, fun q n => ?_⟩
    · have := fits_le hz
      rw [rangeL_length, sizeLine_eq] at this
      exact this
    · exact p1 (.ref q) Hf1 _ (g1.trans (Grow.laid g1.sub n)) ⟨q, rfl, g1.up.free n, g1.sub.free n, .inl ⟨_, _, rfl, upd_same, rp_range _ _⟩⟩
  · exact p1.elim
end
end DV

namespace DV
open PySem PySem.Spec PyProof.Rows L2

/-! ### data, compared -/
mutual
def beqD : D → D → Bool
  | .none, .none => true
  | .bool a, .bool b => a == b
  | .int a, .int b => a == b
  | .str a, .str b => a == b
  | .list a, .list b => beqDs a b
  | .tuple a, .tuple b => beqDs a b
  | .dict a, .dict b => beqKv a b
  | _, _ => false
def beqDs : List D → List D → Bool
  | [], [] => true
  | a :: r, b :: t => beqD a b && beqDs r t
  | _, _ => false
def beqKv : List (D × D) → List (D × D) → Bool
  | [], [] => true
  | (a, c) :: r, (b, d) :: t => beqD a b && beqD c d && beqKv r t
  | _, _ => false
end
mutual
theorem beqD_eq : ∀ {a b : D}, beqD a b = true → a = b
  | .none, b, h => by cases b <;> first | rfl | (simp [beqD] at h)
  | .bool a, b, h => by cases b <;> first | (simp [beqD] at h; done) | (simp [beqD] at h; rw [h])
  | .int a, b, h => by cases b <;> first | (simp [beqD] at h; done) | (simp [beqD] at h; rw [h])
  | .str a, b, h => by cases b <;> first | (simp [beqD] at h; done) | (simp [beqD] at h; rw [h])
  | .list a, b, h => by
    cases b with
    | list c => rw [beqDs_eq (a := a) (b := c) (by simpa [beqD] using h)]
    | _ => simp [beqD] at h
  | .tuple a, b, h => by
    cases b with
    | tuple c => rw [beqDs_eq (a := a) (b := c) (by simpa [beqD] using h)]
    | _ => simp [beqD] at h
  | .dict a, b, h => by
    cases b with
    | dict c => rw [beqKv_eq (a := a) (b := c) (by simpa [beqD] using h)]
    | _ => simp [beqD] at h
theorem beqDs_eq : ∀ {a b : List D}, beqDs a b = true → a = b
  | [], b, h => by cases b <;> first | rfl | (simp [beqDs] at h)
  | x :: r, b, h => by
    cases b with
    | nil => simp [beqDs] at h
    | cons y t =>
      simp only [beqDs, Bool.and_eq_true] at h
      rw [beqD_eq h.1, beqDs_eq h.2]
theorem beqKv_eq : ∀ {a b : List (D × D)}, beqKv a b = true → a = b
  | [], b, h => by cases b <;> first | rfl | (simp [beqKv] at h)
  | (x, z) :: r, b, h => by
    cases b with
    | nil => simp [beqKv] at h
    | cons y t =>
      obtain ⟨y, w⟩ := y
      simp only [beqKv, Bool.and_eq_true] at h
      rw [beqD_eq h.1.1, beqD_eq h.1.2, beqKv_eq h.2]
end
def beqMap : List (Str × D) → List (Str × D) → Bool
  | [], [] => true
  | (a, c) :: r, (b, d) :: t => a == b && beqD c d && beqMap r t
  | _, _ => false
theorem beqMap_eq : ∀ {a b : List (Str × D)}, beqMap a b = true → a = b
  | [], b, h => by cases b <;> first | rfl | (simp [beqMap] at h)
  | (x, z) :: r, b, h => by
    cases b with
    | nil => simp [beqMap] at h
    | cons y t =>
      obtain ⟨y, w⟩ := y
      simp only [beqMap, Bool.and_eq_true, beq_iff_eq] at h
      rw [h.1.1, beqD_eq h.1.2, beqMap_eq h.2]

/-! ### what the module's names are -/
structure Tab where
  fns : List (Str × (Nat × Nat))
  globs : List (Str × D)
  mps : List (Str × List (Str × D))
  exs : List (Str × Nat)
/-- a block: its slots' names, its scope, the names that are its own -/
structure Cn where
  N : List Str
  sc : Scope
  fn : Str → Bool
def blts : List Str := ["len", "abs", "all", "any", "list", "tuple", "int", "sum", "bool", "str", "isinstance", "range"]
structure Facts (T : Tab) (P : Program) (w : World) (K : PySem.W.Frag) (mg : Str → Option Value) (base : Heap) (ca : Nat → Addr) (C : Calls) (k : Nat) : Prop where
  fn : ∀ x i n, T.fns.lookup x = some (i, n) → ∃ f fd ps, mg x = some (.ref f) ∧ PySem.W.keepIn K (.ref f) = true ∧ Binds K fd ps [] ∧ FnOk P w K mg base (L2.CX P w) k f fd ps (spD K ca n (C i))
  glob : ∀ x d, T.globs.lookup x = some d → ∃ v u, mg x = some u ∧ RelV v u ∧ ∀ Hf, Rp K Hf v d
  mp : ∀ x kvs, T.mps.lookup x = some kvs → ∃ m, mg x = some (.ref m) ∧ MapIs K w m kvs
  blt : ∀ x ∈ blts, mg x = none
  ex : ∀ x i, T.exs.lookup x = some i → mg x = some (.ref (ca i)) ∧ PySem.W.keepIn K (.ref (ca i)) = true ∧ PySem.W.excIn K (ca i) [.type "ValueError", .type "Exception", .type "BaseException", .type "object"] "ValueError.__new__" = true ∧
    PySem.W.subIn K (.ref (ca i)) (.type "BaseException") = some true ∧ PySem.W.typeIn K (.ref (ca i)) = some (.type "type")
structure Good (X : Cx) (c : Cn) (k : Nat) : Prop where
  N : X.N = c.N
  nd : c.N.Nodup
  sc : X.env.scope = c.sc
  fn : X.fn = c.fn
  calm : X.calm = true
  room : Room k X.A
abbrev FactsX (T : Tab) (X : Cx) (ca : Nat → Addr) (C : Calls) (k : Nat) : Prop := Facts T X.prog X.w X.K X.mg X.base ca C k

/-! ### forms -/
def plainForm : Expr → Bool
  | .Starred .. => false
  | .Set .. => false
  | .Slice .. => false
  | _ => true
theorem form_star {pe : Expr} {es : List Expr} {env : Env} (h : plainForm pe = true) : starEach (pe :: es) env = (false, eval pe env) :: starEach es env := by
  cases pe <;> first | rfl | cases h
theorem form_ix {pe : Expr} (h : plainForm pe = true) : PlainIx pe := by
  intro o i
  cases pe <;> first | rfl | cases h
theorem form_set {pe : Expr} {env : Env} (h : plainForm pe = true) (x : Value) : foldedSetIterable pe env x = pure x := by
  cases pe <;> first | rfl | cases h
theorem form_in {op : CmpOp} {pe : Expr} (h : plainForm pe = true) : behindInMarks op pe = false := by
  cases pe <;> first | rfl | cases h
theorem form_last {op op' : CmpOp} {a b : Expr} (h : plainForm b = true) : lastMarks [op, op'] [a, b] = false := form_in h
def forms : List Expr → Bool
  | [] => true
  | e :: r => plainForm e && forms r
theorem forms_plain {pos : Pos} {env : Env} : ∀ {es : List Expr}, forms es = true → (backTo pos (starEach es env)).any (·.1) = false
  | [], _ => rfl
  | e :: r, h => by
    unfold forms at h
    rw [Bool.and_eq_true] at h
    rw [form_star h.1]
    show (false || (backTo pos (starEach r env)).any (·.1)) = false
    rw [forms_plain h.2]
    rfl

/-! ### names -/
def visB (c : Cn) (x : Str) : Bool :=
  match c.sc.names.lookup x with
  | some .local => true
  | some .cell => true
  | some .free => true
  | _ => false
def locB (c : Cn) (x : Str) : Bool :=
  match c.sc.names.lookup x with
  | some .local => true
  | some .cell => c.fn x
  | _ => false
def glB (c : Cn) (x : Str) : Bool :=
  match c.sc.names.lookup x with
  | some .globalImplicit => true
  | _ => false
def freeName (x : Str) : Bool := !(x == ("__debug__" : Str)) && !(x == ("__classdict__" : Str))
def slotIs (c : Cn) (i : Nat) (x : Str) : Bool := decide (c.N[i]? = some x)
section
variable {X : Cx} {c : Cn} {k : Nat} {x : Str}
theorem visB_ok (g : Good X c k) (h : visB c x = true) : Vis X.env.scope x := by
  unfold visB at h
  unfold Vis
  rw [g.sc]
  split at h <;> first | (rename_i e; rw [e]; simp) | cases h
theorem locB_ok (g : Good X c k) (h : locB c x = true) : L2.Loc X.env.scope x ∧ (X.fn x = true ∨ X.env.scope.names.lookup x = some .local) := by
  unfold locB at h
  unfold L2.Loc
  rw [g.sc, g.fn]
  split at h
  · rename_i e; rw [e]; simp
  · rename_i e; rw [e]; simp [h]
  · cases h
theorem glB_ok (g : Good X c k) (h : glB c x = true) : Gl X x := by
  unfold glB at h
  show X.env.scope.names.lookup x = some .globalImplicit
  rw [g.sc]
  split at h
  · rename_i e; exact e
  · cases h
theorem slot_ok (g : Good X c k) {i : Nat} (h : slotIs c i x = true) : X.N[i]? = some x := by
  rw [g.N]; exact of_decide_eq_true h
theorem freeName_ok (h : freeName x = true) : (x == ("__debug__" : Str)) = false ∧ (x == ("__classdict__" : Str)) = false := by
  unfold freeName at h
  simpa using h
end

/-! ### the check -/
def bopB : Bop → Operator → Bool
  | .add, .Add => true
  | .sub, .Sub => true
  | .mul, .Mult => true
  | .fdiv, .FloorDiv => true
  | .mod, .Mod => true
  | .pow, .Pow => true
  | _, _ => false
def copB : Cop → CmpOp → Bool
  | .eq, .Eq => true
  | .ne, .NotEq => true
  | .lt, .Lt => true
  | .le, .LtE => true
  | .gt, .Gt => true
  | .ge, .GtE => true
  | .isn, .Is => true
  | .isnn, .IsNot => true
  | .isin, .In => true
  | .notin, .NotIn => true
  | _, _ => false
def litB : D → Const → Bool
  | .none, .none => true
  | .bool a, .bool b => a == b
  | .int a, .int b => a == b
  | .str a, .str b => a == b
  | _, _ => false
def subB (l : List Nat) (m : List Nat) : Bool := l.all fun i => m.contains i
/-- a comprehension's block -/
def inner (c : Cn) (scope : Scope) : Cn := ⟨c.N, relS scope c.sc, fun x => scope.names.lookup x == some .cell⟩
mutual
def Tgs.len : Tgs → Nat
  | .nil => 0
  | .cons _ ts => ts.len + 1
end
mutual
def chkTg (c : Cn) : Tg → Expr → Bool
  | .var i, pe => match pe with
    | .Name x _ => slotIs c i x && locB c x
    | _ => false
  | .tup ts, pe => match pe with
    | .Tuple es _ _ => chkTgs c ts es
    | _ => false
def chkTgs (c : Cn) : Tgs → List Expr → Bool
  | .nil, es => match es with
    | [] => true
    | _ => false
  | .cons t ts, es => match es with
    | e :: r => plainForm e && chkTg c t e && chkTgs c ts r
    | [] => false
end
mutual
def chkE (T : Tab) (c : Cn) : Ex → Expr → Bool
  | .var i, pe => match pe with
    | .Name x _ => slotIs c i x && visB c x && freeName x
    | _ => false
  | .lit d, pe => match pe with
    | .Constant k _ _ => litB d k
    | _ => false
  | .glob x d, pe => match pe with
    | .Name y _ => x == y && glB c x && freeName x && (match T.globs.lookup x with | some d' => beqD d d' | none => false)
    | _ => false
  | .tup es, pe => match pe with
    | .Tuple l _ _ => chkA T c es l
    | _ => false
  | .lst es, pe => match pe with
    | .List l _ => chkA T c es l
    | _ => false
  | .bin op a b, pe => match pe with
    | .BinOp x o y _ => bopB op o && chkE T c a x && chkE T c b y
    | _ => false
  | .rep a b, pe => match pe with
    | .BinOp x .Mult y _ => chkE T c a x && chkE T c b y
    | _ => false
  | .neg a, pe => match pe with
    | .UnaryOp .USub x _ => chkE T c a x
    | _ => false
  | .cmp op a b, pe => match pe with
    | .Compare x [o] [y] _ => copB op o && chkE T c a x && chkE T c b y && plainForm y
    | _ => false
  | .chain op op' a b d, pe => match pe with
    | .Compare x [o, o'] [y, z] _ => copB op o && copB op' o' && chkE T c a x && chkE T c b y && chkE T c d z && plainForm z
    | _ => false
  | .and es, pe => match pe with
    | .BoolOp .And l _ => chkA T c es l
    | _ => false
  | .or es, pe => match pe with
    | .BoolOp .Or l _ => chkA T c es l
    | _ => false
  | .not a, pe => match pe with
    | .UnaryOp .Not x _ => chkE T c a x
    | _ => false
  | .ife t a b, pe => match pe with
    | .IfExp z x y _ => chkT T c t z && chkE T c a x && chkE T c b y
    | _ => false
  | .idx a b, pe => match pe with
    | .Subscript x y _ => chkE T c a x && chkE T c b y && plainForm y
    | _ => false
  | .slice a lo hi, pe => match pe with
    | .Subscript x (.Slice l h none _) _ => chkE T c a x && chkO T c lo l && chkO T c hi h
    | _ => false
  | .rev a, pe => match pe with
    | .Subscript x (.Slice none none (some (.UnaryOp .USub (.Constant (.int 1) _ _) _)) _) _ => chkE T c a x
    | _ => false
  | .call f es, pe => match pe with
    | .Call (.Name x _) l [] _ => glB c x && freeName x && chkA T c es l && decide (T.fns.lookup x = some (f, l.length)) && decide (l ≠ [])
    | _ => false
  | .blt b es, pe => match pe with
    | .Call (.Name x _) l [] _ => x == bfN b && glB c x && chkA T c es l && decide (l ≠ [])
    | _ => false
  | .isi a t, pe => match pe with
    | .Call (.Name x _) [y, .Name z _] [] _ => x == "isinstance" && glB c x && chkE T c a y && plainForm y && z == (tyN t : Str) && glB c z
    | _ => false
  | .comp elt t it ifs own, pe => match pe with
    | .ListComp e [⟨tg, iter, is, 0⟩] scope _ => blkC c.N c.sc scope own && chkI T c it iter && plainForm iter && chkTg (inner c scope) t tg && chkTs T (inner c scope) ifs is && chkE T (inner c scope) elt e && subB t.vars (own.map (·.2))
    | _ => false
  | .mapix x kvs e, pe => match pe with
    | .Subscript (.Name y _) z _ => x == y && glB c x && freeName x && (match T.mps.lookup x with | some m => beqMap kvs m | none => false) && chkE T c e z && plainForm z
    | _ => false
  | .lrange it, pe => match pe with
    | .Call (.Name x _) [y] [] _ => x == "list" && glB c x && chkR T c it y && plainForm y
    | _ => false
/-- each is an argument, an item, a test -/
def chkA (T : Tab) (c : Cn) : Exs → List Expr → Bool
  | .nil, l => match l with
    | [] => true
    | _ => false
  | .cons e es, l => match l with
    | x :: r => plainForm x && chkE T c e x && chkA T c es r
    | [] => false
def chkO (T : Tab) (c : Cn) : Ox → Option Expr → Bool
  | .none, l => match l with
    | none => true
    | _ => false
  | .some e, l => match l with
    | some x => chkE T c e x
    | none => false
def chkI (T : Tab) (c : Cn) : It → Expr → Bool
  | .ex e, pe => chkE T c e pe
  | .range1 a, pe => match pe with
    | .Call (.Name x _) [y] [] _ => x == "range" && glB c x && chkE T c a y && plainForm y
    | _ => false
  | .range2 a b, pe => match pe with
    | .Call (.Name x _) [y, z] [] _ => x == "range" && glB c x && chkE T c a y && plainForm y && chkE T c b z && plainForm z
    | _ => false
def chkR (T : Tab) (c : Cn) : It → Expr → Bool
  | .ex e, pe => false
  | .range1 a, pe => match pe with
    | .Call (.Name x _) [y] [] _ => x == "range" && glB c x && chkE T c a y && plainForm y
    | _ => false
  | .range2 a b, pe => match pe with
    | .Call (.Name x _) [y, z] [] _ => x == "range" && glB c x && chkE T c a y && plainForm y && chkE T c b z && plainForm z
    | _ => false
def chkT (T : Tab) (c : Cn) : Ex → Expr → Bool
  | .and es, pe => match pe with
    | .BoolOp .And l _ => chkTA T c es l
    | _ => false
  | .or es, pe => match pe with
    | .BoolOp .Or l _ => chkTA T c es l
    | _ => false
  | .not a, pe => match pe with
    | .UnaryOp .Not x _ => chkT T c a x
    | _ => false
  | .var i, pe => match pe with
    | .Name x _ => slotIs c i x && visB c x && freeName x
    | _ => false
  | .cmp op a b, pe => match pe with
    | .Compare x [o] [y] _ => copB op o && chkE T c a x && chkE T c b y && plainForm y
    | _ => false
  | .chain op op' a b d, pe => match pe with
    | .Compare x [o, o'] [y, z] _ => copB op o && copB op' o' && chkE T c a x && chkE T c b y && chkE T c d z && plainForm z
    | _ => false
  | .call f es, pe => match pe with
    | .Call (.Name x _) l [] _ => glB c x && freeName x && chkA T c es l && decide (T.fns.lookup x = some (f, l.length)) && decide (l ≠ [])
    | _ => false
  | .blt b es, pe => match pe with
    | .Call (.Name x _) l [] _ => x == bfN b && glB c x && chkA T c es l && decide (l ≠ [])
    | _ => false
  | .isi a t, pe => match pe with
    | .Call (.Name x _) [y, .Name z _] [] _ => x == "isinstance" && glB c x && chkE T c a y && plainForm y && z == (tyN t : Str) && glB c z
    | _ => false
  | .idx a b, pe => match pe with
    | .Subscript x y _ => chkE T c a x && chkE T c b y && plainForm y
    | _ => false
  | .lit d, pe => match pe with
    | .Constant k _ _ => litB d k
    | _ => false
  | .slice a lo hi, pe => match pe with
    | .Subscript x (.Slice l h none _) _ => chkE T c a x && chkO T c lo l && chkO T c hi h
    | _ => false
  | .bin op a b, pe => match pe with
    | .BinOp x o y _ => bopB op o && chkE T c a x && chkE T c b y
    | _ => false
  | _, _ => false
def chkTA (T : Tab) (c : Cn) : Exs → List Expr → Bool
  | .nil, _ => false
  | .cons e es, l => match l with
    | [x] => (match es with | .nil => true | _ => false) && chkT T c e x
    | x :: r => chkT T c e x && chkTA T c es r
    | [] => false
def chkTs (T : Tab) (c : Cn) : Exs → List Expr → Bool
  | .nil, l => match l with
    | [] => true
    | _ => false
  | .cons e es, l => match l with
    | [x] => (match es with | .nil => true | _ => false) && chkT T c e x
    | _ => false
end
end DV

namespace DV
open PySem PySem.Spec PyProof.Rows L2
section
variable {T : Tab} {ca : Nat → Addr} {C : Calls} {k : Nat}
variable {X : Cx} {c : Cn} {W : WX}
theorem Good.blk (g : Good X c k) {s : Shared} {H : Hp} {scope : Scope} {A : Addr} {cl : List (Str × Addr)} {fp : List Addr} : Good (X.blk s H scope (compEnvC scope cl A X.env) fp) (inner c scope) k :=
  ⟨g.N, g.nd, by
    show relS scope X.env.scope = relS scope c.sc
    rw [g.sc], rfl, g.calm, g.room⟩
theorem u64 (g : Good X c k) : X.A.units + 64 < cLine := g.room.units
theorem u66 (g : Good X c k) : X.A.units + 66 < cLine := by have := g.room.un; omega
theorem u1 (g : Good X c k) : X.A.units + 1 < cLine := hu_of g.room
theorem bop_ok {op : Bop} {o : Operator} (h : bopB op o = true) : OpR X (binaryOp o) (rPrim X.K (binD op)) := by
  cases op <;> cases o <;> first | cases h | skip
  · exact op_addD
  · exact op_subD
  · exact op_mulD
  · exact op_fdivD
  · exact op_modD
  · exact op_powD
theorem cop_ok (g : Good X c k) {op : Cop} {o : CmpOp} (h : copB op o = true) : OpR X (compareOp o) (rCmp X.K (cmpD op)) := by
  cases op <;> cases o <;> first | cases h | skip
  · exact op_eqP (u64 g)
  · exact op_neP (u64 g)
  · exact op_ltP (u64 g)
  · exact op_leP (u64 g)
  · exact op_gtP (u64 g)
  · exact op_geP (u64 g)
  · exact op_isD
  · exact op_isnD
  · exact op_inP (u66 g)
  · exact op_notInP (u66 g)
theorem s_lit {d : D} {q : Const} {n : Nat} {p : Pos} (h : litB d q = true) : PE X (.Constant q n p) (tEX X ca W fun _ => .ok (.dat d)) := by
  unfold litB at h
  split at h
  · exact ev_const pe_non fun _ => .non
  · rw [beq_iff_eq] at h; subst h; exact ev_const pe_bl fun _ => .bl _
  · rw [beq_iff_eq] at h; subst h; exact ev_const pe_int fun _ => .int _
  · rw [beq_iff_eq] at h; subst h; exact ev_const pe_str fun _ => .str _
  · cases h
theorem ty_ok (F : FactsX T X ca C k) (g : Good X c k) {t : Ty} {z : Str} {p : Pos} (hz : z = (tyN t : Str)) (hg : glB c z = true) : PE X (.Name z p) (tC (.ty (tyN t))) := by
  subst hz
  refine pe_bltn (u := .type (tyN t)) (glB_ok g hg) ?_ ?_ rfl ?_ ?_
  · cases t <;> exact F.blt _ (by decide +kernel)
  · cases t <;> decide +kernel
  · cases t <;> decide +kernel
  · cases t <;> decide +kernel
/-! targets -/
theorem puts_len : ∀ {ts : Tgs} {ds : List D} {s s' : Slots}, ts.puts ds s = some s' → ds.length = ts.len
  | .nil, [], _, _, _ => by simp [Tgs.len]
  | .nil, _ :: _, _, _, h => by simp [Tgs.puts] at h
  | .cons _ _, [], _, _, h => by simp [Tgs.puts] at h
  | .cons t ts, d :: ds, s, s', h => by
    unfold Tgs.puts at h
    dsimp only at h
    cases e : t.put d s with
    | none => rw [e] at h; simp at h
    | some s1 =>
      rw [e] at h
      have := puts_len (ts := ts) (ds := ds) (s := s1) (s' := s') h
      simp [Tgs.len, this]
theorem form_asg {e : Expr} {r : List Expr} {env : Env} (h : plainForm e = true) : assignEach (e :: r) env = (false, assign e env) :: assignEach r env := by
  cases e <;> first | rfl | cases h
theorem tgs_each (g : Good X c k) : ∀ {ts : Tgs} {es : List Expr}, chkTgs c ts es = true → (assignEach es X.env).length = ts.len ∧ (assignEach es X.env).findIdx? (·.1) = none
  | .nil, [], _ => by simp [assignEach, Tgs.len]
  | .nil, _ :: _, h => by simp [chkTgs] at h
  | .cons _ _, [], h => by simp [chkTgs] at h
  | .cons t ts, e :: r, h => by
    simp only [chkTgs, Bool.and_eq_true] at h
    have ih := tgs_each g h.2
    rw [form_asg h.1.1]
    refine ⟨by simp [Tgs.len, ih.1], ?_⟩
    rw [List.findIdx?_cons]
    simp [ih.2]
mutual
theorem sTg (g : Good X c k) : ∀ (t : Tg) (pe : Expr), chkTg c t pe = true → PG X pe (tG X.K t.vars t.put)
  | .var i, pe, h => by
    simp only [chkTg] at h
    split at h
    · rw [Bool.and_eq_true] at h
      obtain ⟨h1, h2⟩ := locB_ok g h.2
      exact tg_var (pg_name (by rw [g.N]; exact g.nd) (slot_ok g h.1) h1 h2)
    · cases h
  | .tup ts, pe, h => by
    simp only [chkTg] at h
    split at h
    · rename_i es n p
      obtain ⟨h1, h2⟩ := tgs_each g h
      have q := tg_tup (n := ts.len) (k := n) (pos := p) g.calm (sTgs g ts es h) h1 h2 (fun _ _ _ => puts_len)
      exact q
    · cases h
theorem sTgs (g : Good X c k) : ∀ (ts : Tgs) (es : List Expr), chkTgs c ts es = true → PGs X es (tGs X.K ts.vars ts.puts)
  | .nil, es, h => by
    simp only [chkTgs] at h
    split at h
    · exact tgs_nil
    · cases h
  | .cons t ts, es, h => by
    simp only [chkTgs] at h
    split at h
    · rename_i e r
      simp only [Bool.and_eq_true] at h
      exact tgs_cons (sTg g t e h.1.2) (sTgs g ts r h.2) (by rw [form_asg h.1.1]; rfl)
    · cases h
end
end
end DV

namespace DV
open PySem PySem.Spec PyProof.Rows L2
theorem PI.eq {X : Cx} {tg it : Expr} {w w' : TI} (h : PI X tg it w) (e : w = w') : PI X tg it w' := e ▸ h
theorem star2 {X : Cx} {a b : Expr} (ha : plainForm a = true) (hb : plainForm b = true) : starEach [a, b] X.env = [(false, eval a X.env), (false, eval b X.env)] := by
  rw [form_star ha, form_star hb]; rfl
theorem star1 {X : Cx} {a : Expr} (ha : plainForm a = true) : starEach [a] X.env = [(false, eval a X.env)] := form_star ha
section
variable {X : Cx} {ca : Nat → Addr} {W : WX} {tg a b : Expr} {pos : Pos} {ma mb : Slots → Rs EV}
theorem ei_range1 {p : Pos} (hg : Gl X "range") (hm : X.mg "range" = none) (ha : PE X a (tEX X ca W ma)) (hs : starEach [a] X.env = [(false, eval a X.env)]) :
    PI X tg (.Call (.Name "range" p) [a] [] pos) (tI X.K ca W fun s => do
      let x ← ma s
      let j ← ofO (intD x.d)
      if decide (-(2 ^ 62) ≤ j) && decide (j < 2 ^ 62) then .ok (rangeL 0 j) else .st) :=
  range1_gen (Rel := fun _ Hf' H' J ds => WalksD X.K Hf' H' J ds) (fun _ h => h) (fun _ _ _ _ => walksD_range) hg hm ha hs
theorem ei_range1F {p : Pos} (hg : Gl X "range") (hm : X.mg "range" = none) (ha : PE X a (tEX X ca W ma)) (hs : starEach [a] X.env = [(false, eval a X.env)]) :
    PI X tg (.Call (.Name "range" p) [a] [] pos) (tIF X.K ca W fun s => do
      let x ← ma s
      let j ← ofO (intD x.d)
      if decide (-(2 ^ 62) ≤ j) && decide (j < 2 ^ 62) then .ok (rangeL 0 j) else .st) :=
  range1_gen (Rel := fun _ Hf' _ J ds => WalksD X.K Hf' Hf' J ds) (fun _ h => h) (fun _ _ _ _ => walksD_range) hg hm ha hs
theorem ei_range2 {p : Pos} (hg : Gl X "range") (hm : X.mg "range" = none) (ha : PE X a (tEX X ca W ma)) (hb : PE X b (tEX X ca W mb)) (hs : starEach [a, b] X.env = [(false, eval a X.env), (false, eval b X.env)]) (hs2 : starEach [b] X.env = [(false, eval b X.env)]) :
    PI X tg (.Call (.Name "range" p) [a, b] [] pos) (tI X.K ca W fun s => do
      let x ← ma s
      let i ← ofO (intD x.d)
      let y ← mb s
      let j ← ofO (intD y.d)
      if decide (-(2 ^ 62) ≤ i) && decide (i < 2 ^ 62) && decide (-(2 ^ 62) ≤ j) && decide (j < 2 ^ 62) then .ok (rangeL i j) else .st) :=
  range2_gen (Rel := fun _ Hf' H' J ds => WalksD X.K Hf' H' J ds) (fun _ h => h) (fun _ _ _ _ _ => walksD_range) hg hm ha hb hs hs2
theorem ei_range2F {p : Pos} (hg : Gl X "range") (hm : X.mg "range" = none) (ha : PE X a (tEX X ca W ma)) (hb : PE X b (tEX X ca W mb)) (hs : starEach [a, b] X.env = [(false, eval a X.env), (false, eval b X.env)]) (hs2 : starEach [b] X.env = [(false, eval b X.env)]) :
    PI X tg (.Call (.Name "range" p) [a, b] [] pos) (tIF X.K ca W fun s => do
      let x ← ma s
      let i ← ofO (intD x.d)
      let y ← mb s
      let j ← ofO (intD y.d)
      if decide (-(2 ^ 62) ≤ i) && decide (i < 2 ^ 62) && decide (-(2 ^ 62) ≤ j) && decide (j < 2 ^ 62) then .ok (rangeL i j) else .st) :=
  range2_gen (Rel := fun _ Hf' _ J ds => WalksD X.K Hf' Hf' J ds) (fun _ h => h) (fun _ _ _ _ _ => walksD_range) hg hm ha hb hs hs2
end
theorem evF_len {C : Calls} {s : Slots} {T : Tab} {c : Cn} : ∀ {es : Exs} {l : List Expr} {ds : List D}, chkA T c es l = true → evF C s es = .ok ds → ds.length = l.length
  | .nil, [], ds, _, h => by simp only [evF] at h; cases h; rfl
  | .nil, _ :: _, _, h, _ => by simp [chkA] at h
  | .cons _ _, [], _, h, _ => by simp [chkA] at h
  | .cons e es, x :: r, ds, h, q => by
    simp only [chkA, Bool.and_eq_true] at h
    simp only [evF] at q
    cases e1 : evE C s e with
    | st => rw [e1] at q; cases q
    | ex x => rw [e1] at q; cases q
    | ok v =>
      rw [e1] at q
      simp only [ok_bind] at q
      cases e2 : v.fix with
      | none => rw [e2] at q; cases q
      | some d =>
        rw [e2] at q
        simp only [ofO_some, ok_bind] at q
        cases e3 : evF C s es with
        | st => rw [e3] at q; cases q
        | ex x => rw [e3] at q; cases q
        | ok dr =>
          rw [e3] at q
          cases q
          have := evF_len h.2 e3
          simp [this]
theorem forms_of {T : Tab} {c : Cn} : ∀ {es : Exs} {l : List Expr}, chkA T c es l = true → forms l = true
  | .nil, [], _ => rfl
  | .nil, _ :: _, h => by simp [chkA] at h
  | .cons _ _, [], h => by simp [chkA] at h
  | .cons e es, x :: r, h => by
    simp only [chkA, Bool.and_eq_true] at h
    show (plainForm x && forms r) = true
    rw [h.1.1, forms_of h.2]
    rfl
theorem PT.congr {X : Cx} {ca : Nat → Addr} {W : WX} {pe : Expr} {m m' : Slots → Rs Bool} (h : PT X pe (tT X.K ca W m)) (e : ∀ s, m s = m' s) : PT X pe (tT X.K ca W m') := by
  have : m = m' := funext e
  rw [← this]; exact h
theorem PW.congr {X : Cx} {ca : Nat → Addr} {W : WX} {pe : Expr} {m m' : Slots → Rs Bool} (h : PW X pe (tT X.K ca W m)) (e : ∀ s, m s = m' s) : PW X pe (tT X.K ca W m') := by
  have : m = m' := funext e
  rw [← this]; exact h
theorem PE.congr {X : Cx} {ca : Nat → Addr} {W : WX} {pe : Expr} {m m' : Slots → Rs EV} (h : PE X pe (tEX X ca W m)) (e : ∀ s, m s = m' s) : PE X pe (tEX X ca W m') := by
  have : m = m' := funext e
  rw [← this]; exact h
theorem bind_ok {α : Type} (r : Rs α) : (r >>= fun a => Rs.ok a) = r := by cases r <;> rfl
theorem bindT {r : Rs Bool} : (r >>= fun b => if b = true then Rs.ok true else Rs.ok false) = r := by
  cases r with
  | ok b => cases b <;> rfl
  | _ => rfl
section
variable {T : Tab} {ca : Nat → Addr} {C : Calls} {k : Nat}
mutual
theorem sE {X : Cx} {c : Cn} {W : WX} (F : FactsX T X ca C k) (g : Good X c k) (tk : Takes X W) : ∀ (e : Ex) (pe : Expr), chkE T c e pe = true → PE X pe (tEX X ca W fun s => evE C s e)
  | .var i, pe, h => by
    simp only [chkE] at h
    split at h
    · simp only [Bool.and_eq_true] at h
      obtain ⟨h1, h2⟩ := freeName_ok h.2
      exact ev_var (pe_var (slot_ok g h.1.1) (visB_ok g h.1.2) h1 h2)
    · cases h
  | .lit d, pe, h => by
    simp only [chkE] at h
    split at h
    · exact s_lit h
    · cases h
  | .glob x d, pe, h => by
    simp only [chkE] at h
    split at h
    · rename_i y p
      simp only [Bool.and_eq_true, beq_iff_eq] at h
      obtain ⟨⟨⟨rfl, h2⟩, h3⟩, h4⟩ := h
      split at h4
      · rename_i d' e
        cases beqD_eq h4
        obtain ⟨v, u, m, r, rp⟩ := F.glob x d e
        exact ev_const (pe_glob (glB_ok g h2) m r (freeName_ok h3).1) rp
      · cases h4
    · cases h
  | .tup es, pe, h => by
    simp only [chkE] at h
    split at h
    · exact ev_tup (sA F g tk es _ h)
    · cases h
  | .lst es, pe, h => by
    simp only [chkE] at h
    split at h
    · exact ev_lst (sA F g tk es _ h)
    · cases h
  | .bin op a b, pe, h => by
    simp only [chkE] at h
    split at h
    · simp only [Bool.and_eq_true] at h
      exact ev_bin (bop_ok h.1.1) (sE F g tk a _ h.1.2) (sE F g tk b _ h.2)
    · cases h
  | .rep a b, pe, h => by
    simp only [chkE] at h
    split at h
    · simp only [Bool.and_eq_true] at h
      exact ev_rep (sE F g tk a _ h.1) (sE F g tk b _ h.2)
    · cases h
  | .neg a, pe, h => by
    simp only [chkE] at h
    split at h
    · exact ev_neg (sE F g tk a _ h)
    · cases h
  | .cmp op a b, pe, h => by
    simp only [chkE] at h
    split at h
    · simp only [Bool.and_eq_true] at h
      exact ev_cmp (cop_ok g h.1.1.1) (sE F g tk a _ h.1.1.2) (sE F g tk b _ h.1.2) (form_in h.2)
    · cases h
  | .chain op op' a b d, pe, h => by
    simp only [chkE] at h
    split at h
    · simp only [Bool.and_eq_true] at h
      exact ev_chain (cop_ok g h.1.1.1.1.1) (cop_ok g h.1.1.1.1.2) (sE F g tk a _ h.1.1.1.2) (sE F g tk b _ h.1.1.2) (sE F g tk d _ h.1.2) (form_last h.2)
    · cases h
  | .and es, pe, h => by
    simp only [chkE] at h
    split at h
    · exact sAnd F g tk es _ _ h
    · cases h
  | .or es, pe, h => by
    simp only [chkE] at h
    split at h
    · exact sOr F g tk es _ _ h
    · cases h
  | .not a, pe, h => by
    simp only [chkE] at h
    split at h
    · exact ev_not (sE F g tk a _ h)
    · cases h
  | .ife t a b, pe, h => by
    simp only [chkE] at h
    split at h
    · simp only [Bool.and_eq_true] at h
      exact ev_if (sT F g tk t _ h.1.1) (sE F g tk a _ h.1.2) (sE F g tk b _ h.2)
    · cases h
  | .idx a b, pe, h => by
    simp only [chkE] at h
    split at h
    · simp only [Bool.and_eq_true] at h
      exact ev_idx (u1 g) (sE F g tk a _ h.1.1) (sE F g tk b _ h.1.2) (form_ix h.2)
    · cases h
  | .slice a lo hi, pe, h => by
    simp only [chkE] at h
    split at h
    · simp only [Bool.and_eq_true] at h
      exact ev_slice (sE F g tk a _ h.1.1) (sO F g tk lo _ h.1.2) (sO F g tk hi _ h.2)
    · cases h
  | .rev a, pe, h => by
    simp only [chkE] at h
    split at h
    · exact ev_rev (sE F g tk a _ h)
    · cases h
  | .call f es, pe, h => by
    simp only [chkE] at h
    split at h
    · rename_i x p l q
      simp only [Bool.and_eq_true, decide_eq_true_eq] at h
      obtain ⟨⟨⟨⟨h1, h2⟩, h3⟩, h4⟩, h5⟩ := h
      cases l with
      | nil => exact absurd rfl h5
      | cons e r =>
        obtain ⟨fa, fd, ps, m, kp, b, G⟩ := F.fn x f _ h4
        have hf := forms_of h3
        have hf' : plainForm e = true ∧ forms r = true := by
          simpa [forms] using hf
        exact ev_call G g.room (glB_ok g h1) m kp b tk (sA F g tk es _ h3) (freeName_ok h2).1 (form_star hf'.1) (forms_plain hf'.2) fun s ds hd => evF_len h3 hd
    · cases h
  | .blt b es, pe, h => by
    simp only [chkE] at h
    split at h
    · rename_i x p l q
      simp only [Bool.and_eq_true, decide_eq_true_eq, beq_iff_eq] at h
      obtain ⟨⟨⟨h1, h2⟩, h3⟩, h4⟩ := h
      subst h1
      cases l with
      | nil => exact absurd rfl h4
      | cons e r =>
        have hf := forms_of h3
        have hf' : plainForm e = true ∧ forms r = true := by
          simpa [forms] using hf
        exact ev_blt g.calm (glB_ok g h2) (F.blt _ (by cases b <;> decide +kernel)) (sAD F g tk es _ h3) (form_star hf'.1) (forms_plain hf'.2)
    · cases h
  | .isi a t, pe, h => by
    simp only [chkE] at h
    split at h
    · rename_i x p y z pz q
      simp only [Bool.and_eq_true, beq_iff_eq] at h
      obtain ⟨⟨⟨⟨⟨h1, h2⟩, h3⟩, h4⟩, h5⟩, h6⟩ := h
      subst h1
      exact ev_isi (p2 := p) (np := "") (n := "") (sE F g tk a _ h3) (glB_ok g h2) (F.blt _ (by decide +kernel)) (ty_ok F g h5 h6) (star2 h4 rfl) (star1 rfl)
    · cases h
  | .comp elt t it ifs own, pe, h => by
    simp only [chkE] at h
    split at h
    · rename_i e tg iter is scope q
      simp only [Bool.and_eq_true] at h
      obtain ⟨⟨⟨⟨⟨⟨h1, h2⟩, h3⟩, h4⟩, h5⟩, h6⟩, h7⟩ := h
      refine ev_comp (tv := t.vars) g.calm (by rw [g.N]; exact g.nd) (sI F g tk it tg _ h2) (blkOk_by (by rw [g.N, g.sc]; exact h1)) (fun s H A cl fp => ?_) (fun s H A cl fp => ?_) (fun s H A cl fp => ?_) (form_set h3) ?_
      · exact sTg (g.blk (s := s) (H := H) (scope := scope) (A := A) (cl := cl) (fp := fp)) t tg h4
      · exact sTs (X := X.blk s H scope (compEnvC scope cl A X.env) fp) (W := W0) F g.blk takes0 ifs is h5
      · exact sE (X := X.blk s H scope (compEnvC scope cl A X.env) fp) (W := W0) F g.blk takes0 elt e h6
      · intro i hi
        have := List.all_eq_true.mp h7 i hi
        simpa using this
    · cases h
  | .mapix x kvs e, pe, h => by
    simp only [chkE] at h
    split at h
    · simp only [Bool.and_eq_true, beq_iff_eq] at h
      obtain ⟨⟨⟨⟨⟨h1, h2⟩, h3⟩, h4⟩, h5⟩, h6⟩ := h
      subst h1
      split at h4
      · rename_i m em
        cases beqMap_eq h4
        obtain ⟨a, hm, hM⟩ := F.mp x kvs em
        exact ev_mapix (glB_ok g h2) hm (freeName_ok h3).1 hM (sE F g tk e _ h5) (form_ix h6)
      · cases h4
    · cases h
  | .lrange it, pe, h => by
    simp only [chkE] at h
    split at h
    · simp only [Bool.and_eq_true, beq_iff_eq] at h
      obtain ⟨⟨⟨h1, h2⟩, h3⟩, h4⟩ := h
      subst h1
      exact ev_lrange g.calm (glB_ok g h2) (F.blt _ (by decide +kernel)) (sR F g tk it _ h3) (form_star h4)
    · cases h
theorem sA {X : Cx} {c : Cn} {W : WX} (F : FactsX T X ca C k) (g : Good X c k) (tk : Takes X W) : ∀ (es : Exs) (l : List Expr), chkA T c es l = true → PA X l (tF X.K ca W fun s => evF C s es)
  | .nil, l, h => by
    simp only [chkA] at h
    split at h
    · exact ef_nil
    · cases h
  | .cons e es, l, h => by
    simp only [chkA] at h
    split at h
    · simp only [Bool.and_eq_true] at h
      exact ef_cons (sE F g tk e _ h.1.2) (sA F g tk es _ h.2) (form_star h.1.1)
    · cases h
theorem sAD {X : Cx} {c : Cn} {W : WX} (F : FactsX T X ca C k) (g : Good X c k) (tk : Takes X W) : ∀ (es : Exs) (l : List Expr), chkA T c es l = true → PA X l (tD X.K ca W fun s => evD C s es)
  | .nil, l, h => by
    simp only [chkA] at h
    split at h
    · exact ed_nil
    · cases h
  | .cons e es, l, h => by
    simp only [chkA] at h
    split at h
    · simp only [Bool.and_eq_true] at h
      exact ed_cons (sE F g tk e _ h.1.2) (sAD F g tk es _ h.2) (form_star h.1.1)
    · cases h
theorem sAnd {X : Cx} {c : Cn} {W : WX} (F : FactsX T X ca C k) (g : Good X c k) (tk : Takes X W) : ∀ (es : Exs) (l : List Expr) (pos : Pos), chkA T c es l = true → PE X (.BoolOp .And l pos) (tEX X ca W fun s => evAnd C s es)
  | .nil, l, pos, h => ⟨fun pins s σ H Q I ⟨H0, Hf, ow, sl, o, p⟩ => p.elim⟩
  | .cons e .nil, l, pos, h => by
    match l, h with
    | [], h => simp [chkA] at h
    | [x], h =>
      simp only [chkA, Bool.and_eq_true] at h
      exact pe_one (sE F g tk e _ h.1.2)
    | _ :: _ :: _, h => simp [chkA] at h
  | .cons e (.cons e' es), l, pos, h => by
    match l, h with
    | [], h => simp [chkA] at h
    | [x], h => simp [chkA] at h
    | x :: y :: r, h =>
      have h' : (plainForm x && chkE T c e x && chkA T c (.cons e' es) (y :: r)) = true := h
      simp only [Bool.and_eq_true] at h'
      exact ev_and (sE F g tk e _ h'.1.2) (sAnd F g tk (.cons e' es) _ pos h'.2)
theorem sOr {X : Cx} {c : Cn} {W : WX} (F : FactsX T X ca C k) (g : Good X c k) (tk : Takes X W) : ∀ (es : Exs) (l : List Expr) (pos : Pos), chkA T c es l = true → PE X (.BoolOp .Or l pos) (tEX X ca W fun s => evOr C s es)
  | .nil, l, pos, h => ⟨fun pins s σ H Q I ⟨H0, Hf, ow, sl, o, p⟩ => p.elim⟩
  | .cons e .nil, l, pos, h => by
    match l, h with
    | [], h => simp [chkA] at h
    | [x], h =>
      simp only [chkA, Bool.and_eq_true] at h
      exact pe_one (sE F g tk e _ h.1.2)
    | _ :: _ :: _, h => simp [chkA] at h
  | .cons e (.cons e' es), l, pos, h => by
    match l, h with
    | [], h => simp [chkA] at h
    | [x], h => simp [chkA] at h
    | x :: y :: r, h =>
      have h' : (plainForm x && chkE T c e x && chkA T c (.cons e' es) (y :: r)) = true := h
      simp only [Bool.and_eq_true] at h'
      exact ev_or (sE F g tk e _ h'.1.2) (sOr F g tk (.cons e' es) _ pos h'.2)
theorem sO {X : Cx} {c : Cn} {W : WX} (F : FactsX T X ca C k) (g : Good X c k) (tk : Takes X W) : ∀ (o : Ox) (l : Option Expr), chkO T c o l = true → PO X l (tO X.K ca W fun s => evO C s o)
  | .none, l, h => by
    simp only [chkO] at h
    split at h
    · exact eo_none
    · cases h
  | .some e, l, h => by
    simp only [chkO] at h
    split at h
    · exact eo_some (sE F g tk e _ h)
    · cases h
theorem sI {X : Cx} {c : Cn} {W : WX} (F : FactsX T X ca C k) (g : Good X c k) (tk : Takes X W) : ∀ (it : It) (tg pe : Expr), chkI T c it pe = true → PI X tg pe (tI X.K ca W fun s => evI C s it)
  | .ex e, tg, pe, h => by
    simp only [chkI] at h
    exact ei_seq (sE F g tk e _ h)
  | .range1 a, tg, pe, h => by
    simp only [chkI] at h
    split at h
    · simp only [Bool.and_eq_true, beq_iff_eq] at h
      obtain ⟨⟨⟨h1, h2⟩, h3⟩, h4⟩ := h
      subst h1
      exact ei_range1 (glB_ok g h2) (F.blt _ (by decide +kernel)) (sE F g tk a _ h3) (star1 h4)
    · cases h
  | .range2 a b, tg, pe, h => by
    simp only [chkI] at h
    split at h
    · simp only [Bool.and_eq_true, beq_iff_eq] at h
      obtain ⟨⟨⟨⟨⟨h1, h2⟩, h3⟩, h4⟩, h5⟩, h6⟩ := h
      subst h1
      exact ei_range2 (glB_ok g h2) (F.blt _ (by decide +kernel)) (sE F g tk a _ h3) (sE F g tk b _ h5) (star2 h4 h6) (star1 h6)
    · cases h
theorem sIF {X : Cx} {c : Cn} {W : WX} (F : FactsX T X ca C k) (g : Good X c k) (tk : Takes X W) : ∀ (it : It) (tg pe : Expr), chkI T c it pe = true → PI X tg pe (tIF X.K ca W fun s => evIF C s it)
  | .ex e, tg, pe, h => by
    simp only [chkI] at h
    exact ei_seqF (sE F g tk e _ h)
  | .range1 a, tg, pe, h => by
    simp only [chkI] at h
    split at h
    · simp only [Bool.and_eq_true, beq_iff_eq] at h
      obtain ⟨⟨⟨h1, h2⟩, h3⟩, h4⟩ := h
      subst h1
      exact ei_range1F (glB_ok g h2) (F.blt _ (by decide +kernel)) (sE F g tk a _ h3) (star1 h4)
    · cases h
  | .range2 a b, tg, pe, h => by
    simp only [chkI] at h
    split at h
    · simp only [Bool.and_eq_true, beq_iff_eq] at h
      obtain ⟨⟨⟨⟨⟨h1, h2⟩, h3⟩, h4⟩, h5⟩, h6⟩ := h
      subst h1
      exact ei_range2F (glB_ok g h2) (F.blt _ (by decide +kernel)) (sE F g tk a _ h3) (sE F g tk b _ h5) (star2 h4 h6) (star1 h6)
    · cases h
theorem sR {X : Cx} {c : Cn} {W : WX} (F : FactsX T X ca C k) (g : Good X c k) (tk : Takes X W) : ∀ (it : It) (pe : Expr), chkR T c it pe = true → PRg X pe (tR X.K ca W fun s => evR C s it)
  | .ex e, pe, h => by simp [chkR] at h
  | .range1 a, pe, h => by
    simp only [chkR] at h
    split at h
    · simp only [Bool.and_eq_true, beq_iff_eq] at h
      obtain ⟨⟨⟨h1, h2⟩, h3⟩, h4⟩ := h
      subst h1
      exact er_1 (glB_ok g h2) (F.blt _ (by decide +kernel)) (sE F g tk a _ h3) (star1 h4)
    · cases h
  | .range2 a b, pe, h => by
    simp only [chkR] at h
    split at h
    · simp only [Bool.and_eq_true, beq_iff_eq] at h
      obtain ⟨⟨⟨⟨⟨h1, h2⟩, h3⟩, h4⟩, h5⟩, h6⟩ := h
      subst h1
      exact er_2 (glB_ok g h2) (F.blt _ (by decide +kernel)) (sE F g tk a _ h3) (sE F g tk b _ h5) (star2 h4 h6) (star1 h6)
    · cases h
theorem sT {X : Cx} {c : Cn} {W : WX} (F : FactsX T X ca C k) (g : Good X c k) (tk : Takes X W) : ∀ (e : Ex) (pe : Expr), chkT T c e pe = true → PT X pe (tT X.K ca W fun s => evT C s e)
  | .and es, pe, h => by
    simp only [chkT] at h
    split at h
    · exact (sTAnd F g tk es _ _ h).pt
    · cases h
  | .or es, pe, h => by
    simp only [chkT] at h
    split at h
    · exact (sTOr F g tk es _ _ h).pt
    · cases h
  | .not a, pe, h => by
    simp only [chkT] at h
    split at h
    · exact et_not (sT F g tk a _ h)
    · cases h
  | .var i, pe, h => by
    simp only [chkT] at h
    split at h
    · simp only [Bool.and_eq_true] at h
      obtain ⟨h1, h2⟩ := freeName_ok h.2
      exact et_truth (ev_var (pe_var (slot_ok g h.1.1) (visB_ok g h.1.2) h1 h2)) fun _ => rfl
    · cases h
  | .cmp op a b, pe, h => by
    simp only [chkT] at h
    split at h
    · simp only [Bool.and_eq_true] at h
      exact et_cmp (cop_ok g h.1.1.1) (sE F g tk a _ h.1.1.2) (sE F g tk b _ h.1.2) (form_in h.2)
    · cases h
  | .chain op op' a b d, pe, h => by
    simp only [chkT] at h
    split at h
    · simp only [Bool.and_eq_true] at h
      exact et_chain (cop_ok g h.1.1.1.1.1) (cop_ok g h.1.1.1.1.2) (sE F g tk a _ h.1.1.1.2) (sE F g tk b _ h.1.1.2) (sE F g tk d _ h.1.2) (form_last h.2)
    · cases h
  | .call f es, pe, h => by
    simp only [chkT] at h
    split at h
    · rename_i x p l q
      simp only [Bool.and_eq_true, decide_eq_true_eq] at h
      obtain ⟨⟨⟨⟨h1, h2⟩, h3⟩, h4⟩, h5⟩ := h
      cases l with
      | nil => exact absurd rfl h5
      | cons e r =>
        obtain ⟨fa, fd, ps, m, kp, b, G⟩ := F.fn x f _ h4
        have hf := forms_of h3
        have hf' : plainForm e = true ∧ forms r = true := by
          simpa [forms] using hf
        refine PT.congr (et_truth (ev_call G g.room (glB_ok g h1) m kp b tk (sA F g tk es _ h3) (freeName_ok h2).1 (form_star hf'.1) (forms_plain hf'.2) fun s ds hd => evF_len h3 hd) fun _ => rfl) fun s => ?_
        simp only [evT]
        cases evF C s es <;> rfl
    · cases h
  | .blt b es, pe, h => by
    simp only [chkT] at h
    split at h
    · rename_i x p l q
      simp only [Bool.and_eq_true, decide_eq_true_eq, beq_iff_eq] at h
      obtain ⟨⟨⟨h1, h2⟩, h3⟩, h4⟩ := h
      subst h1
      cases l with
      | nil => exact absurd rfl h4
      | cons e r =>
        have hf := forms_of h3
        have hf' : plainForm e = true ∧ forms r = true := by
          simpa [forms] using hf
        refine PT.congr (et_truth (ev_blt g.calm (glB_ok g h2) (F.blt _ (by cases b <;> decide +kernel)) (sAD F g tk es _ h3) (form_star hf'.1) (forms_plain hf'.2)) fun _ => rfl) fun s => ?_
        simp only [evT]
        cases evD C s es <;> rfl
    · cases h
  | .isi a t, pe, h => by
    simp only [chkT] at h
    split at h
    · rename_i x p y z pz q
      simp only [Bool.and_eq_true, beq_iff_eq] at h
      obtain ⟨⟨⟨⟨⟨h1, h2⟩, h3⟩, h4⟩, h5⟩, h6⟩ := h
      subst h1
      refine PT.congr (et_truth (ev_isi (p2 := p) (np := "") (n := "") (sE F g tk a _ h3) (glB_ok g h2) (F.blt _ (by decide +kernel)) (ty_ok F g h5 h6) (star2 h4 rfl) (star1 rfl)) fun _ => rfl) fun s => ?_
      simp only [evT]
      cases evE C s a <;> rfl
    · cases h
  | .idx a b, pe, h => by
    simp only [chkT] at h
    split at h
    · simp only [Bool.and_eq_true] at h
      refine PT.congr (et_truth (ev_idx (u1 g) (sE F g tk a _ h.1.1) (sE F g tk b _ h.1.2) (form_ix h.2)) fun _ => rfl) fun s => ?_
      simp only [evT]
      cases evE C s a <;> cases evE C s b <;> rfl
    · cases h
  | .lit d, pe, h => by
    simp only [chkT] at h
    split at h
    · exact et_truth (s_lit h) fun _ => rfl
    · cases h
  | .slice a lo hi, pe, h => by
    simp only [chkT] at h
    split at h
    · simp only [Bool.and_eq_true] at h
      refine PT.congr (et_truth (ev_slice (sE F g tk a _ h.1.1) (sO F g tk lo _ h.1.2) (sO F g tk hi _ h.2)) fun _ => rfl) fun s => ?_
      simp only [evT]
      cases evE C s a <;> cases evO C s lo <;> cases evO C s hi <;> rfl
    · cases h
  | .bin op a b, pe, h => by
    simp only [chkT] at h
    split at h
    · simp only [Bool.and_eq_true] at h
      refine PT.congr (et_truth (ev_bin (bop_ok h.1.1) (sE F g tk a _ h.1.2) (sE F g tk b _ h.2)) fun _ => rfl) fun s => ?_
      simp only [evT]
      cases evE C s a <;> cases evE C s b <;> rfl
    · cases h
  | .glob _ _, pe, h => by simp [chkT] at h
  | .tup _, pe, h => by simp [chkT] at h
  | .lst _, pe, h => by simp [chkT] at h
  | .rep _ _, pe, h => by simp [chkT] at h
  | .neg _, pe, h => by simp [chkT] at h
  | .ife _ _ _, pe, h => by simp [chkT] at h
  | .rev _, pe, h => by simp [chkT] at h
  | .comp _ _ _ _ _, pe, h => by simp [chkT] at h
  | .mapix _ _ _, pe, h => by simp [chkT] at h
  | .lrange _, pe, h => by simp [chkT] at h
theorem sTAnd {X : Cx} {c : Cn} {W : WX} (F : FactsX T X ca C k) (g : Good X c k) (tk : Takes X W) : ∀ (es : Exs) (l : List Expr) (pos : Pos), chkTA T c es l = true → PW X (.BoolOp .And l pos) (tT X.K ca W fun s => evAndT C s es)
  | .nil, l, pos, h => by simp [chkTA] at h
  | .cons e es, l, pos, h => by
    simp only [chkTA] at h
    split at h
    · rename_i x
      rw [Bool.and_eq_true] at h
      obtain ⟨h1, h2⟩ := h
      split at h1
      · exact PW.congr (pw_and1 (sT F g tk e _ h2)) fun s => by simp only [evAndT]; exact bindT.symm
      · cases h1
    · rename_i x r hr
      rw [Bool.and_eq_true] at h
      cases r with
      | nil => exact absurd rfl hr
      | cons y r => exact et_and (sT F g tk e _ h.1) (sTAnd F g tk es _ pos h.2)
    · cases h
theorem sTOr {X : Cx} {c : Cn} {W : WX} (F : FactsX T X ca C k) (g : Good X c k) (tk : Takes X W) : ∀ (es : Exs) (l : List Expr) (pos : Pos), chkTA T c es l = true → PW X (.BoolOp .Or l pos) (tT X.K ca W fun s => evOrT C s es)
  | .nil, l, pos, h => by simp [chkTA] at h
  | .cons e es, l, pos, h => by
    simp only [chkTA] at h
    split at h
    · rename_i x
      rw [Bool.and_eq_true] at h
      obtain ⟨h1, h2⟩ := h
      split at h1
      · exact PW.congr (pw_or1 (sT F g tk e _ h2)) fun s => by simp only [evOrT]; exact bindT.symm
      · cases h1
    · rename_i x r hr
      rw [Bool.and_eq_true] at h
      cases r with
      | nil => exact absurd rfl hr
      | cons y r => exact et_or (sT F g tk e _ h.1) (sTOr F g tk es _ pos h.2)
    · cases h
theorem sTs {X : Cx} {c : Cn} {W : WX} (F : FactsX T X ca C k) (g : Good X c k) (tk : Takes X W) : ∀ (es : Exs) (l : List Expr), chkTs T c es l = true → PTs X l (tT X.K ca W fun s => evTs C s es)
  | .nil, l, h => by
    simp only [chkTs] at h
    split at h
    · exact ⟨fun pins s σ H Q I ⟨H0, Hf, ow, sl, o, p⟩ => pts_nil.run pins s σ H Q I (p true Hf H (Grow.refl o.fr) rfl)⟩
    · cases h
  | .cons e es, l, h => by
    simp only [chkTs] at h
    split at h
    · rw [Bool.and_eq_true] at h
      obtain ⟨h1, h2⟩ := h
      split at h1
      · exact pts_one (sT F g tk e _ h2)
      · cases h1
    · cases h
end
end
end DV

namespace DV
open PySem PySem.Spec PyProof.Rows L2
section
variable {K : PySem.W.Frag} {H0 : Hp × Hp} {Hb Hf Hf1 H H1 : Hp} {ow : Addr → Option Nat} {σ : L2.St} {s : Slots} {u : V} {ev : EV} {z : SV}
theorem Ok.setSlot (i : Nat) (o : Ok K H0 Hf ow H σ s) (r : RE K Hb Hf H ow u ev) (hb : ∀ a, ow a ≠ none → Hb a ≠ none) (h0 : Same H0.2 Hb) (e : ev.slot = some z) :
    ∃ ow', Ok K H0 Hf ow' H (σ.set i (some u)) (s.set i (some z)) ∧ ∀ a, ow' a ≠ none → ow a ≠ none ∨ ∃ d, ev = .new d ∧ u = .ref a := by
  cases ev with
  | dat d => cases e; exact ⟨ow, o.setDat r, fun a h => .inl h⟩
  | own d => cases e
  | new d =>
    cases e
    obtain ⟨q, rfl, hq, hf, t⟩ := r
    refine ⟨_, o.setOwn (fun a h z => hb a h (by rw [z]; exact hq)) (h0.free hq) hf t, fun a h => ?_⟩
    have h : (if a = q then some i else if ow a = some i then none else ow a) ≠ none := h
    by_cases z : a = q
    · subst z; exact .inr ⟨_, rfl, rfl⟩
    · rw [if_neg z] at h
      by_cases z2 : ow a = some i
      · rw [if_pos z2] at h; exact absurd rfl h
      · rw [if_neg z2] at h; exact .inl h
theorem RE.slotMono {ow' : Addr → Option Nat} (r : RE K Hb Hf H ow u ev) (e : ev.slot = some z) : RE K Hb Hf H ow' u ev := by
  cases ev with
  | dat d => exact r
  | new d => exact r
  | own d => cases e
theorem RE.newThere {d : D} {a : Addr} (r : RE K Hb Hf H ow u ev) (e : ev = .new d) (e2 : u = .ref a) : H a ≠ none := by
  subst e
  obtain ⟨q, e', _, _, t⟩ := r
  rw [e'] at e2
  cases e2
  exact t.there
end
section
variable {X : Cx} {ca : Nat → Addr} {W : WX} {a b c : Expr} {pos : Pos} {ma mb mc : Slots → Rs EV}
theorem s_par2 {st : Stmt} {i j : Nat} (h : PS X st (tPar i j (tCons (tEX X ca W ma) (tCons (tEX X ca W mb) tNil)))) :
    PS X st (tSX X ca W fun s => DV.lift s (ma s) fun x => DV.lift s (mb s) fun y => match x.slot, y.slot with
      | some x', some y' => some (.nx ((s.set i (some x')).set j (some y')))
      | _, _ => none) := by
  refine PS.imp h fun E σ H ⟨H0, Hf, ow, s, o, p⟩ => ?_
  refine ⟨H0, Hf, ow, s, o, FlPost.lift o p fun x u Hf1 H1 g1 r1 p1 => ?_⟩
  have o1 := o.grow g1
  refine ⟨H0, Hf1, ow, s, o1, FlPost.lift o1 (FlPost.shift p1 g1.fup) fun y w Hf2 H2 g2 r2 p2 => ?_⟩
  have o2 := o1.grow g2
  refine ⟨u, w, rfl, ?_⟩
  cases e1 : x.slot with
  | none => rw [e1] at p2; exact p2.elim
  | some x' =>
    cases e2 : y.slot with
    | none => rw [e1, e2] at p2; exact p2.elim
    | some y' =>
      rw [e1, e2] at p2
      obtain ⟨ow1, o3, k1⟩ := o2.setSlot i (r1.mono g2) (fun a h => (o.own a h).2.1) o.gr.up e1
      obtain ⟨ow2, o4, k2⟩ := o3.setSlot j (r2.slotMono e2) (fun a h => by
        rcases k1 a h with k | ⟨d, k, k'⟩
        · exact (o1.own a k).2.1
        · exact r1.newThere k k') o1.gr.up e2
      exact p2 _ Hf2 ow2 H2 g2.fup o4
theorem s_par3 {st : Stmt} {i j l : Nat} (h : PS X st (tPar3 i j l (tCons (tEX X ca W ma) (tCons (tEX X ca W mb) (tCons (tEX X ca W mc) tNil))))) :
    PS X st (tSX X ca W fun s => DV.lift s (ma s) fun x => DV.lift s (mb s) fun y => DV.lift s (mc s) fun z => match x.slot, y.slot, z.slot with
      | some x', some y', some z' => some (.nx (((s.set i (some x')).set j (some y')).set l (some z')))
      | _, _, _ => none) := by
  refine PS.imp h fun E σ H ⟨H0, Hf, ow, s, o, p⟩ => ?_
  refine ⟨H0, Hf, ow, s, o, FlPost.lift o p fun x u Hf1 H1 g1 r1 p1 => ?_⟩
  have o1 := o.grow g1
  refine ⟨H0, Hf1, ow, s, o1, FlPost.lift o1 (FlPost.shift p1 g1.fup) fun y w Hf2 H2 g2 r2 p2 => ?_⟩
  have o2 := o1.grow g2
  refine ⟨H0, Hf2, ow, s, o2, FlPost.lift o2 (FlPost.shift p2 g2.fup) fun z v Hf3 H3 g3 r3 p3 => ?_⟩
  have o3 := o2.grow g3
  refine ⟨u, w, v, rfl, ?_⟩
  cases e1 : x.slot with
  | none => rw [e1] at p3; exact p3.elim
  | some x' =>
    cases e2 : y.slot with
    | none => rw [e1, e2] at p3; exact p3.elim
    | some y' =>
      cases e3 : z.slot with
      | none => rw [e1, e2, e3] at p3; exact p3.elim
      | some z' =>
        rw [e1, e2, e3] at p3
        obtain ⟨ow1, o4, k1⟩ := o3.setSlot i (r1.mono (g2.trans g3)) (fun a h => (o.own a h).2.1) o.gr.up e1
        obtain ⟨ow2, o5, k2⟩ := o4.setSlot j ((r2.mono g3).slotMono e2) (fun a h => by
          rcases k1 a h with k | ⟨d, k, k'⟩
          · exact (o1.own a k).2.1
          · exact r1.newThere k k') o1.gr.up e2
        obtain ⟨ow3, o6, k3⟩ := o5.setSlot l (r3.slotMono e3) (fun a h => by
          rcases k2 a h with k | ⟨d, k, k'⟩
          · rcases k1 a k with k | ⟨d, k, k'⟩
            · exact (o2.own a k).2.1
            · exact (r1.mono g2).newThere k k'
          · exact r2.newThere k k') o2.gr.up e3
        exact p3 _ Hf3 ow3 H3 g3.fup o6
/-! name op= e -/
theorem augD_ok {op : Bop} {x y : D} {z : EV} : ∀ {o : Operator}, (op = .add ∧ o = .Add) ∨ (op = .sub ∧ o = .Sub) → True := fun _ => trivial
theorem aug_add {x y : D} {z : EV} (h : augD .add x y = some z) : ∃ i j, x = .int i ∧ y = .int j ∧ z = .dat (.int (i + j)) := by
  unfold augD at h
  split at h
  · cases h; exact ⟨_, _, rfl, rfl, rfl⟩
  · contradiction
  · cases h
theorem aug_sub {x y : D} {z : EV} (h : augD .sub x y = some z) : ∃ i j, x = .int i ∧ y = .int j ∧ z = .dat (.int (i - j)) := by
  unfold augD at h
  split at h
  · contradiction
  · cases h; exact ⟨_, _, rfl, rfl, rfl⟩
  · cases h
end

/-! ### the check of statements -/
def swapOn (c : Cn) (y : Str) (py : Pos) : Expr → Bool
  | .ListComp _ _ s vp => decide (c.sc.names.lookup y = some .local) && py.line == vp.line && !(s.names.any fun (n, k) => n == y && (k == .local || k == .cell))
  | .SetComp _ _ s vp => decide (c.sc.names.lookup y = some .local) && py.line == vp.line && !(s.names.any fun (n, k) => n == y && (k == .local || k == .cell))
  | .DictComp _ _ _ s vp => decide (c.sc.names.lookup y = some .local) && py.line == vp.line && !(s.names.any fun (n, k) => n == y && (k == .local || k == .cell))
  | _ => false
theorem swap_ok {X : Cx} {c : Cn} {k : Nat} (g : Good X c k) (kd : c.sc.kind = .function) {y : Str} {py : Pos} {line : Nat} (v : Expr) : swapsWith v (some (.Name y py)) line X.env = pure (swapOn c y py v) := by
  have hk : X.env.blockKind = .function := by
    unfold Env.blockKind
    rw [g.sc, kd]
    rfl
  have e1 : ((X.env.blockKind == ScopeKind.function) && (X.env.kindOf y == some .local)) = decide (c.sc.names.lookup y = some .local) := by
    rw [hk]
    show (true && (X.env.scope.names.lookup y == some NameKind.local)) = _
    rw [g.sc, Bool.true_and]
    cases hb : (List.lookup y c.sc.names == some NameKind.local) with
    | true => rw [beq_iff_eq] at hb; rw [hb]; rfl
    | false =>
      symm
      rw [decide_eq_false_iff_not]
      intro z
      rw [z] at hb
      cases hb
  cases v <;> first
    | rfl
    | (show pure (X.env.blockKind == ScopeKind.function && X.env.kindOf y == some NameKind.local && _ && _) = pure _
       rw [e1]
       rfl)
/-- what is unpacked: no comprehension, no display -/
def openVal : Expr → Bool
  | .ListComp .. => false
  | .SetComp .. => false
  | .DictComp .. => false
  | .Tuple .. => false
  | _ => true
def isCall : Expr → Bool
  | .Call .. => true
  | _ => false
def augB : Bop → Operator → Bool
  | .add, .Add => true
  | .sub, .Sub => true
  | _, _ => false
def isLocal (c : Cn) (x : Str) : Bool := decide (c.sc.names.lookup x = some .local)
/-- a, b = x, y with plain local names, stored from the right -/
def par2B (c : Cn) (x y : Str) (px py : Pos) (vs : List Expr) : Bool := isLocal c x && isLocal c y && py.line == px.line && !(x == y) && !(vs.all (foldedForSure 8)) && !(vs.all (constantsAlone 8))
def par3B (c : Cn) (x y z : Str) (px py pz : Pos) (vs : List Expr) : Bool := isLocal c x && isLocal c y && isLocal c z && py.line == px.line && pz.line == px.line && !(x == y) && !(x == z) && !(y == z) && !(vs.all (foldedForSure 8)) && !(vs.all (constantsAlone 8))
theorem blockKind_ok {X : Cx} {c : Cn} {k : Nat} (g : Good X c k) (kd : c.sc.kind = .function) : X.env.blockKind = .function := by
  unfold Env.blockKind
  rw [g.sc, kd]
  rfl
theorem isLocal_ok {X : Cx} {c : Cn} {k : Nat} (g : Good X c k) {x : Str} (h : isLocal c x = true) : X.env.scope.names.lookup x = some .local := by
  rw [g.sc]; exact of_decide_eq_true h
theorem any_star : ∀ {es : List Expr}, forms es = true → (es.any fun | .Starred .. => true | _ => false) = false
  | [], _ => rfl
  | e :: r, h => by
    have h' : plainForm e = true ∧ forms r = true := by simpa [forms] using h
    rw [List.any_cons, any_star h'.2, Bool.or_false]
    have h1 := h'.1
    clear h h'
    cases e <;> first | rfl | cases h1
theorem no_star : ∀ e : Expr, plainForm e = true → ¬ (match e with | .Starred .. => true | _ => false) = true := fun e he hh => by
  cases e <;> first | cases he; done | cases hh; done
theorem swapped2 {X : Cx} {c : Cn} {k : Nat} (g : Good X c k) (kd : c.sc.kind = .function) {x y : Str} {px py pt pt2 : Pos} {kt k2 : Nat} {a b : Expr} (ha : plainForm a = true) (hb : plainForm b = true) (h : par2B c x y px py [a, b] = true) :
    swappedStores [.Tuple [.Name x px, .Name y py] kt pt] (.Tuple [a, b] k2 pt2) X.env = pure (some [x, y]) := by
  simp only [par2B, Bool.and_eq_true, Bool.not_eq_true', beq_eq_false_iff_ne, beq_iff_eq, ne_eq] at h
  obtain ⟨⟨⟨⟨⟨h1, h2⟩, h3⟩, h4⟩, h5⟩, h6⟩ := h
  have k1 : X.env.kindOf x = some .local := isLocal_ok g h1
  have k2 : X.env.kindOf y = some .local := isLocal_ok g h2
  have hk := blockKind_ok g kd
  have e1 := any_star (es := [a, b]) (by simp [forms, ha, hb])
  unfold swappedStores
  simp only [hk, e1, h5, h6, k1, k2, List.filterMap_cons, List.filterMap_nil, List.head?_cons, Option.map_some, Option.getD_some, Expr.pos, h3]
  have e2 : [x, y].eraseDups = [x, y] := by
    have : (x == y) = false := beq_eq_false_iff_ne.mpr h4
    have : (y == x) = false := beq_eq_false_iff_ne.mpr (fun e => h4 e.symm)
    simp [List.eraseDups_cons, List.filter, *]
  simp [e2]
  intro hh
  rcases hh with hh | hh
  · exact absurd hh (no_star a ha)
  · exact absurd hh (no_star b hb)
theorem swapped3 {X : Cx} {c : Cn} {k : Nat} (g : Good X c k) (kd : c.sc.kind = .function) {x y z : Str} {px py pz pt pt2 : Pos} {kt k2 : Nat} {a b d : Expr} (ha : plainForm a = true) (hb : plainForm b = true) (hd : plainForm d = true) (h : par3B c x y z px py pz [a, b, d] = true) :
    swappedStores [.Tuple [.Name x px, .Name y py, .Name z pz] kt pt] (.Tuple [a, b, d] k2 pt2) X.env = pure (some [x, y, z]) := by
  simp only [par3B, Bool.and_eq_true, Bool.not_eq_true', beq_eq_false_iff_ne, beq_iff_eq, ne_eq] at h
  obtain ⟨⟨⟨⟨⟨⟨⟨⟨⟨h1, h2⟩, h2'⟩, h3⟩, h3'⟩, h4⟩, h4'⟩, h4''⟩, h5⟩, h6⟩ := h
  have k1 : X.env.kindOf x = some .local := isLocal_ok g h1
  have k2 : X.env.kindOf y = some .local := isLocal_ok g h2
  have k3 : X.env.kindOf z = some .local := isLocal_ok g h2'
  have hk := blockKind_ok g kd
  have e1 := any_star (es := [a, b, d]) (by simp [forms, ha, hb, hd])
  unfold swappedStores
  simp only [hk, e1, h5, h6, k1, k2, k3, List.filterMap_cons, List.filterMap_nil, List.head?_cons, Option.map_some, Option.getD_some, Expr.pos, h3, h3']
  have e2 : [x, y, z].eraseDups = [x, y, z] := by
    have q1 : (y == x) = false := beq_eq_false_iff_ne.mpr (fun e => h4 e.symm)
    have q2 : (z == x) = false := beq_eq_false_iff_ne.mpr (fun e => h4' e.symm)
    have q3 : (z == y) = false := beq_eq_false_iff_ne.mpr (fun e => h4'' e.symm)
    simp [List.eraseDups_cons, List.filter, q1, q2, q3]
  simp [e2]
  intro hh
  rcases hh with hh | hh | hh
  · exact absurd hh (no_star a ha)
  · exact absurd hh (no_star b hb)
  · exact absurd hh (no_star d hd)
mutual
def chkH (T : Tab) (c : Cn) : Hds → List ExceptHandler → Bool
  | .nil, l => match l with
    | [] => true
    | _ => false
  | .cons i d r, l => match l with
    | .ExceptHandler (some (.Name x _)) none [.Return (some (.Constant q _ _)) _] _ :: t => decide (T.exs.lookup x = some i) && glB c x && freeName x && litB d q && chkH T c r t
    | _ => false
end
mutual
def chkS (T : Tab) (c : Cn) : Stm → Stmt → Bool
  | .asg t e, st => match t, st with
    | .var i, .Assign [.Name y py] v _ => slotIs c i y && locB c y && chkE T c e v && (match swapOn c y py v with | true => isLocal c y | false => true)
    | .tup ts, .Assign [.Tuple es _ _] v _ => chkTgs c ts es && chkE T c e v && openVal v
    | _, _ => false
  | .aug i op e, st => match st with
    | .AugAssign (.Name y _) o v _ => slotIs c i y && locB c y && augB op o && chkE T c e v
    | _ => false
  | .app i e, st => match st with
    | .Expr (.Call (.Attribute (.Name y _) z ap) [v] [] cp) _ => z == "append" && slotIs c i y && visB c y && freeName y && ap.endLine == cp.line && chkE T c e v && plainForm v
    | _ => false
  | .expr e, st => match st with
    | .Expr v _ => isCall v && chkE T c e v
    | _ => false
  | .ret e, st => match st with
    | .Return (some v) _ => chkE T c e v
    | .Return none _ => (match e with | .lit .none => true | _ => false)
    | _ => false
  | .ite t a b, st => match st with
    | .If z x y _ => chkT T c t z && chkB T c a x && chkB T c b y
    | _ => false
  | .for t it body, st => match st with
    | .For tg iter l [] _ => chkTg c t tg && chkI T c it iter && plainForm iter && chkB T c body l
    | _ => false
  | .whl t body, st => match st with
    | .While z l [] _ => chkT T c t z && chkB T c body l
    | _ => false
  | .brk, st => match st with
    | .Break _ => true
    | _ => false
  | .cnt, st => match st with
    | .Continue _ => true
    | _ => false
  | .pass, st => match st with
    | .Pass _ => true
    | _ => false
  | .raise i, st => match st with
    | .Raise (some (.Call (.Name x _) [.Constant (.str _) _ _] [] _)) none _ => decide (T.exs.lookup x = some i) && glB c x && freeName x
    | _ => false
  | .try body hs, st => match st with
    | .Try l (h :: t) [] [] _ => chkB T c body l && chkH T c hs (h :: t)
    | _ => false
  | .frz _, _ => false
  | .par2 i j a b, st => match st with
    | .Assign [.Tuple [.Name x px, .Name y py] _ _] (.Tuple [v, w] _ _) _ => slotIs c i x && slotIs c j y && !(i == j) && par2B c x y px py [v, w] && chkE T c a v && chkE T c b w && plainForm v && plainForm w
    | _ => false
  | .par3 i j l a b d, st => match st with
    | .Assign [.Tuple [.Name x px, .Name y py, .Name z pz] _ _] (.Tuple [v, w, u] _ _) _ => slotIs c i x && slotIs c j y && slotIs c l z && !(i == j) && !(i == l) && !(j == l) && par3B c x y z px py pz [v, w, u] && chkE T c a v && chkE T c b w && chkE T c d u && plainForm v && plainForm w && plainForm u
    | _ => false
def chkB (T : Tab) (c : Cn) : Stms → List Stmt → Bool
  | .nil, l => match l with
    | [] => true
    | _ => false
  | .cons st r, l => match st with
    | .frz _ => chkB T c r l
    | _ => match l with
      | x :: t => chkS T c st x && chkB T c r t
      | [] => false
end
end DV

namespace DV
open PySem PySem.Spec PyProof.Rows L2
/-- a def's block -/
structure GoodS (X : Cx) (c : Cn) (k : Nat) : Prop extends Good X c k where
  stack : X.stack = X.env :: X.outer
  frame : X.env.frame = some X.env.locals
  kind : c.sc.kind = .function
  passes : PassesOwn (model X.prog X.w) X.A X.env X.xe
theorem PS.congr {X : Cx} {ca : Nat → Addr} {W : WX} {st : Stmt} {m m' : Slots → Option Fl} (h : PS X st (tSX X ca W m)) (e : ∀ s, m s = m' s) : PS X st (tSX X ca W m') := by
  have : m = m' := funext e
  rw [← this]; exact h
theorem PSs.congr {X : Cx} {ca : Nat → Addr} {W : WX} {st : List Stmt} {m m' : Slots → Option Fl} (h : PSs X st (tSX X ca W m)) (e : ∀ s, m s = m' s) : PSs X st (tSX X ca W m') := by
  have : m = m' := funext e
  rw [← this]; exact h
section
variable {T : Tab} {ca : Nat → Addr} {C : Calls} {k n : Nat} {sub : Nat → Nat → Option Bool}
/-- name = value -/
theorem s_asgVar {X : Cx} {c : Cn} {W : WX} (F : FactsX T X ca C k) (g : GoodS X c k) (tk : Takes X W) {i : Nat} {y : Str} {py pos : Pos} {e : Ex} {v : Expr} (h1 : slotIs c i y = true) (h2 : locB c y = true) (h3 : chkE T c e v = true)
    (h4 : (match swapOn c y py v with | true => isLocal c y | false => true) = true) : PS X (.Assign [.Name y py] v pos) (tAsg (tEX X ca W fun s => evE C s e) (gName i)) := by
  obtain ⟨l1, l2⟩ := locB_ok g.toGood h2
  have hN : X.N.Nodup := by rw [g.N]; exact g.nd
  have sw := swap_ok (line := pos.line) (py := py) (y := y) g.toGood g.kind v
  cases hs : swapOn c y py v with
  | false =>
    rw [hs] at sw
    exact ps_set hN (slot_ok g.toGood h1) l1 (sE F g.toGood tk e v h3) sw l2
  | true =>
    rw [hs] at sw h4
    -- a comprehension
    cases e with
    | comp elt t it ifs own =>
      simp only [chkE] at h3
      split at h3
      · rename_i pe tg iter is scope q
        simp only [Bool.and_eq_true] at h3
        obtain ⟨⟨⟨⟨⟨⟨c1, c2⟩, c3⟩, c4⟩, c5⟩, c6⟩, c7⟩ := h3
        have sb : ∀ i ∈ t.vars, i ∈ own.map (·.2) := by
          intro i hi
          have := List.all_eq_true.mp c7 i hi
          simpa using this
        refine PS.imp (ps_setLc (g := tG X.K t.vars t.put) (tt := tT X.K ca W0 fun s => evTs C s ifs) (te := tE X.K ca W0 fun s => evE C s elt) g.calm hN (slot_ok g.toGood h1) (isLocal_ok g.toGood h4) sw (sI F g.toGood tk it tg _ c2) (blkOk_by (by rw [g.N, g.sc]; exact c1)) (fun s H A cl fp => ?_) (fun s H A cl fp => ?_) (fun s H A cl fp => ?_) (form_set c3)) ?_
        · exact sTg (g.toGood.blk (s := s) (H := H) (scope := scope) (A := A) (cl := cl) (fp := fp)) t tg c4
        · exact sTs (X := X.blk s H scope (compEnvC scope cl A X.env) fp) (W := W0) F g.toGood.blk takes0 ifs is c5
        · exact sE (X := X.blk s H scope (compEnvC scope cl A X.env) fp) (W := W0) F g.toGood.blk takes0 elt pe c6
        · intro E σ H q
          exact lc_of sb σ H _ q
      · cases h3
    | var _ => simp only [chkE] at h3; split at h3 <;> first | (cases hs; done) | cases h3
    | lit _ => simp only [chkE] at h3; split at h3 <;> first | (cases hs; done) | cases h3
    | glob _ _ => simp only [chkE] at h3; split at h3 <;> first | (cases hs; done) | cases h3
    | tup _ => simp only [chkE] at h3; split at h3 <;> first | (cases hs; done) | cases h3
    | lst _ => simp only [chkE] at h3; split at h3 <;> first | (cases hs; done) | cases h3
    | bin _ _ _ => simp only [chkE] at h3; split at h3 <;> first | (cases hs; done) | cases h3
    | rep _ _ => simp only [chkE] at h3; split at h3 <;> first | (cases hs; done) | cases h3
    | neg _ => simp only [chkE] at h3; split at h3 <;> first | (cases hs; done) | cases h3
    | cmp _ _ _ => simp only [chkE] at h3; split at h3 <;> first | (cases hs; done) | cases h3
    | chain _ _ _ _ _ => simp only [chkE] at h3; split at h3 <;> first | (cases hs; done) | cases h3
    | and _ => simp only [chkE] at h3; split at h3 <;> first | (cases hs; done) | cases h3
    | or _ => simp only [chkE] at h3; split at h3 <;> first | (cases hs; done) | cases h3
    | not _ => simp only [chkE] at h3; split at h3 <;> first | (cases hs; done) | cases h3
    | ife _ _ _ => simp only [chkE] at h3; split at h3 <;> first | (cases hs; done) | cases h3
    | idx _ _ => simp only [chkE] at h3; split at h3 <;> first | (cases hs; done) | cases h3
    | slice _ _ _ => simp only [chkE] at h3; split at h3 <;> first | (cases hs; done) | cases h3
    | rev _ => simp only [chkE] at h3; split at h3 <;> first | (cases hs; done) | cases h3
    | call _ _ => simp only [chkE] at h3; split at h3 <;> first | (cases hs; done) | cases h3
    | blt _ _ => simp only [chkE] at h3; split at h3 <;> first | (cases hs; done) | cases h3
    | isi _ _ => simp only [chkE] at h3; split at h3 <;> first | (cases hs; done) | cases h3
    | mapix _ _ _ => simp only [chkE] at h3; split at h3 <;> first | (cases hs; done) | cases h3
    | lrange _ => simp only [chkE] at h3; split at h3 <;> first | (cases hs; done) | cases h3
theorem open_sole {X : Cx} {v : Expr} {es : List Expr} {n line : Nat} {p : Pos} (h : openVal v = true) : swapsWithSole [.Tuple es n p] v line X.env = pure false := by
  cases v <;> first | rfl | cases h
theorem open_stores {X : Cx} {v : Expr} {es : List Expr} {n : Nat} {p : Pos} (h : openVal v = true) : swappedStores [.Tuple es n p] v X.env = pure none := by
  cases v <;> first | rfl | cases h
theorem s_hds {X : Cx} {c : Cn} (F : FactsX T X ca C k) (g : GoodS X c k) : ∀ (hs : Hds) (l : List ExceptHandler), chkH T c hs l = true → HdsD X ca hs l
  | .nil, l, h => by
    simp only [chkH] at h
    split at h
    · exact .nil
    · cases h
  | .cons i d r, l, h => by
    simp only [chkH] at h
    split at h
    · rename_i x np q m p1 p2 p3 t
      simp only [Bool.and_eq_true, decide_eq_true_eq] at h
      obtain ⟨⟨⟨⟨h1, h2⟩, h3⟩, h4⟩, h5⟩ := h
      obtain ⟨m1, _⟩ := F.ex x i h1
      refine .cons ⟨glB_ok g.toGood h2, (freeName_ok h3).1, .inl m1⟩ ?_ ?_ (s_hds F g r t h5)
      · intro a oe pn
        unfold litB at h4
        split at h4
        · exact pe_non
        · rw [beq_iff_eq] at h4; subst h4; exact pe_bl
        · rw [beq_iff_eq] at h4; subst h4; exact pe_int
        · rw [beq_iff_eq] at h4; subst h4; exact pe_str
        · cases h4
      · intro Hf
        unfold litB at h4
        split at h4
        · exact .non
        · exact .bl _
        · exact .int _
        · exact .str _
        · cases h4
    · cases h
mutual
theorem sS {X : Cx} {c : Cn} {W : WX} (hsub : ∀ i j b, sub i j = some b → PySem.W.exmOne X.K (.ref (ca i)) (.ref (ca j)) = some b) (F : FactsX T X ca C k) (g : GoodS X c k) (tk : Takes X W) : ∀ (st : Stm) (ps : Stmt), chkS T c st ps = true → PS X ps (tSX X ca W fun s => evS C sub n st s)
  | .asg t e, ps, h => by
    simp only [chkS] at h
    split at h
    · rename_i i y py v pos
      simp only [Bool.and_eq_true] at h
      exact s_set (s_asgVar F g tk h.1.1.1 h.1.1.2 h.1.2 h.2)
    · rename_i ts es m p v pos
      simp only [Bool.and_eq_true] at h
      exact s_unpack (sE F g.toGood tk e v h.1.2) (sTg g.toGood (.tup ts) _ (by simp only [chkTg]; exact h.1.1)) (open_sole h.2) (open_stores h.2) rfl
    · cases h
  | .aug i op e, ps, h => by
    simp only [chkS] at h
    split at h
    · rename_i y py o v pos
      simp only [Bool.and_eq_true] at h
      obtain ⟨⟨⟨h1, h2⟩, h3⟩, h4⟩ := h
      obtain ⟨l1, l2⟩ := locB_ok g.toGood h2
      have hN : X.N.Nodup := by rw [g.N]; exact g.nd
      unfold augB at h3
      split at h3
      · exact s_aug (op := .Add) (ps_aug hN (slot_ok g.toGood h1) l1 (sE F g.toGood tk e v h4) ip_add l2) fun _ _ _ => aug_add
      · exact s_aug (op := .Sub) (ps_aug hN (slot_ok g.toGood h1) l1 (sE F g.toGood tk e v h4) ip_sub l2) fun _ _ _ => aug_sub
      · cases h3
    · cases h
  | .app i e, ps, h => by
    simp only [chkS] at h
    split at h
    · rename_i y py z ap v cp pos
      simp only [Bool.and_eq_true, beq_iff_eq] at h
      obtain ⟨⟨⟨⟨⟨⟨h1, h2⟩, h3⟩, h4⟩, h5⟩, h6⟩, h7⟩ := h
      subst h1
      obtain ⟨n1, n2⟩ := freeName_ok h4
      have ha : PA X [v] (tF X.K ca W fun s => do let x ← evE C s e; let d ← ofO x.fix; let ds ← Rs.ok []; .ok (d :: ds)) := ef_cons (sE F g.toGood tk e v h6) ef_nil (form_star h7)
      exact s_app (pe_bm PySem.F.plainAttrs_list PySem.F.slot_list_append PySem.F.type_list_append mt_append (pe_var (slot_ok g.toGood h2) (visB_ok g.toGood h3) n1 n2) ha rfl (by rw [form_star h7]; rfl) (by rw [beq_iff_eq]; exact h5) (form_star h7) (forms_plain (by simp [forms]))) rfl
    · cases h
  | .expr e, ps, h => by
    simp only [chkS] at h
    split at h
    · rename_i v pos
      simp only [Bool.and_eq_true] at h
      have h1 := h.1
      have he := sE F g.toGood tk e v h.2
      cases v <;> first | (cases h1; done) | exact s_expr he rfl
    · cases h
  | .ret e, ps, h => by
    simp only [chkS] at h
    split at h
    · exact s_ret (sE F g.toGood tk e _ h)
    · split at h
      · exact s_retN
      · cases h
    · cases h
  | .ite t a b, ps, h => by
    simp only [chkS] at h
    split at h
    · simp only [Bool.and_eq_true] at h
      exact s_if (sT F g.toGood tk t _ h.1.1) (sB hsub F g tk a _ h.1.2) (sB hsub F g tk b _ h.2)
    · cases h
  | .for t it body, ps, h => by
    simp only [chkS] at h
    split at h
    · rename_i tg iter l pos
      simp only [Bool.and_eq_true] at h
      exact s_for g.passes g.calm (sIF F g.toGood tk it tg iter h.1.1.2) (sTg g.toGood t tg h.1.1.1) (sB hsub F g tk body l h.2) (form_set h.1.2)
    · cases h
  | .whl t body, ps, h => by
    simp only [chkS] at h
    split at h
    · simp only [Bool.and_eq_true] at h
      exact s_while n g.passes (sT F g.toGood tk t _ h.1) (sB hsub F g tk body _ h.2)
    · cases h
  | .brk, ps, h => by
    simp only [chkS] at h
    split at h
    · exact s_brk
    · cases h
  | .cnt, ps, h => by
    simp only [chkS] at h
    split at h
    · exact s_cnt
    · cases h
  | .pass, ps, h => by
    simp only [chkS] at h
    split at h
    · exact s_pass
    · cases h
  | .raise i, ps, h => by
    simp only [chkS] at h
    split at h
    · rename_i x p m j p2 p3 p4
      simp only [Bool.and_eq_true, decide_eq_true_eq] at h
      obtain ⟨⟨h1, h2⟩, h3⟩ := h
      obtain ⟨m1, m2, m3, m4, m5⟩ := F.ex x i h1
      exact s_raise g.calm tk (pmk_own PySem.F.excBase_ValueError m3 m1 m2 (raises_own m4 m5) (glB_ok g.toGood h2) (freeName_ok h3).1)
    · cases h
  | .try body hs, ps, h => by
    simp only [chkS] at h
    split at h
    · rename_i l hd t pos
      simp only [Bool.and_eq_true] at h
      exact s_try hsub g.stack g.frame tk (fun W' pn xe tk' po => sB (X := X.tr pn xe) hsub F ⟨⟨g.N, g.nd, g.sc, g.fn, g.calm, g.room⟩, g.stack, g.frame, g.kind, po⟩ tk' body l h.1) (s_hds F g hs _ h.2)
    · cases h
  | .frz _, ps, h => by simp [chkS] at h
  | .par2 i j a b, ps, h => by
    simp only [chkS] at h
    split at h
    · rename_i x px y py n1 p1 v w n2 p2 pos
      simp only [Bool.and_eq_true, Bool.not_eq_true', beq_eq_false_iff_ne] at h
      obtain ⟨⟨⟨⟨⟨⟨⟨h1, h2⟩, h3⟩, h4⟩, h5⟩, h6⟩, h7⟩, h8⟩ := h
      have h4' := h4
      simp only [par2B, Bool.and_eq_true] at h4'
      have hN : X.N.Nodup := by rw [g.N]; exact g.nd
      exact s_par2 (ps_par g.calm hN (slot_ok g.toGood h1) (slot_ok g.toGood h2) h3 (isLocal_ok g.toGood h4'.1.1.1.1.1) (isLocal_ok g.toGood h4'.1.1.1.1.2) (pa_cons (sE F g.toGood tk a v h5) (pa_cons (sE F g.toGood tk b w h6) pa_nil (form_star h8)) (form_star h7)) (swapped2 g.toGood g.kind h7 h8 h4) rfl)
    · cases h
  | .par3 i j l a b d, ps, h => by
    simp only [chkS] at h
    split at h
    · rename_i x px y py z pz n1 p1 v w u n2 p2 pos
      simp only [Bool.and_eq_true, Bool.not_eq_true', beq_eq_false_iff_ne] at h
      obtain ⟨⟨⟨⟨⟨⟨⟨⟨⟨⟨⟨⟨h1, h2⟩, h3⟩, h4⟩, h5⟩, h6⟩, h7⟩, h8⟩, h9⟩, h10⟩, h11⟩, h12⟩, h13⟩ := h
      have h7' := h7
      simp only [par3B, Bool.and_eq_true] at h7'
      have hN : X.N.Nodup := by rw [g.N]; exact g.nd
      exact s_par3 (ps_par3 g.calm hN (slot_ok g.toGood h1) (slot_ok g.toGood h2) (slot_ok g.toGood h3) h4 h5 h6 (isLocal_ok g.toGood h7'.1.1.1.1.1.1.1.1.1) (isLocal_ok g.toGood h7'.1.1.1.1.1.1.1.1.2) (isLocal_ok g.toGood h7'.1.1.1.1.1.1.1.2) (pa_cons (sE F g.toGood tk a v h8) (pa_cons (sE F g.toGood tk b w h9) (pa_cons (sE F g.toGood tk d u h10) pa_nil (form_star h13)) (form_star h12)) (form_star h11)) (swapped3 g.toGood g.kind h11 h12 h13 h7) rfl)
    · cases h
theorem sB {X : Cx} {c : Cn} {W : WX} (hsub : ∀ i j b, sub i j = some b → PySem.W.exmOne X.K (.ref (ca i)) (.ref (ca j)) = some b) (F : FactsX T X ca C k) (g : GoodS X c k) (tk : Takes X W) : ∀ (b : Stms) (l : List Stmt), chkB T c b l = true → PSs X l (tSX X ca W fun s => evB C sub n b s)
  | .nil, l, h => by
    simp only [chkB] at h
    split at h
    · exact ss_nil
    · cases h
  | .cons st r, l, h => by
    simp only [chkB] at h
    split at h
    · rename_i i
      exact ss_frz i (sB hsub F g tk r l h)
    · split at h
      · simp only [Bool.and_eq_true] at h
        exact ss_cons (sS hsub F g tk st _ h.1) (sB hsub F g tk r _ h.2)
      · cases h
end
end
end DV

namespace DV
open PySem PySem.Spec PyProof.Rows L2
structure Df where
  name : Str
  st : Stmt
  fn : Fn
  N : List Str
  ps : List Str
def scopeB (N P : List Str) (sc : Scope) : Bool :=
  (match sc.kind with | .function => true | _ => false) && !sc.isCoroutine && !sc.isGenerator && decide N.Nodup && decide (N.take P.length = P) && (P.all fun x => match sc.names.lookup x with | some .local => true | some .cell => true | _ => false) &&
    (sc.names.all fun y => match y.2 with | .free => false | _ => true)
theorem scope_ok {N P : List Str} {sc : Scope} (h : scopeB N P sc = true) : FnScope N P sc := by
  unfold scopeB at h
  simp only [Bool.and_eq_true, Bool.not_eq_true', decide_eq_true_eq, List.all_eq_true] at h
  obtain ⟨⟨⟨⟨⟨⟨h1, h2⟩, h3⟩, h4⟩, h5⟩, h6⟩, h7⟩ := h
  refine ⟨?_, h2, h3, h4, h5, fun x hx => ?_, fun y hy e => ?_⟩
  · split at h1
    · assumption
    · cases h1
  · have := h6 x hx
    split at this
    · rename_i e; exact .inl e
    · rename_i e; exact .inr e
    · cases this
  · have := h7 y hy
    rw [e] at this
    cases this
def dfB (T : Tab) (d : Df) : Bool := scopeB d.N d.ps (defScope d.st) && decide (d.ps.length = d.fn.np) && decide (d.N.length = d.fn.ns) && chkB T ⟨d.N, defScope d.st, fun _ => true⟩ d.fn.body (defBody d.st)
def fnsB (T : Tab) (dfs : List Df) : Bool := T.fns.all fun p => match dfs[p.2.1]? with
  | some d => d.name == p.1 && decide (d.fn.np = p.2.2)
  | none => false
def tabOf (dfs : List Df) (i : Nat) : Option Fn := (dfs[i]?).map (·.fn)
theorem mem_of_lookup {α : Type} : ∀ {l : List (Str × α)} {x : Str} {v : α}, l.lookup x = some v → (x, v) ∈ l
  | [], _, _, h => by simp at h
  | (k, w) :: r, x, v, h => by
    rw [List.lookup_cons] at h
    cases hb : x == k with
    | true =>
      rw [hb] at h
      cases h
      rw [beq_iff_eq] at hb
      subst hb
      exact List.mem_cons_self
    | false =>
      rw [hb] at h
      exact List.mem_cons_of_mem _ (mem_of_lookup h)
theorem mem_of_lk {β α : Type} [BEq β] [LawfulBEq β] : ∀ {l : List (β × α)} {x : β} {v : α}, l.lookup x = some v → (x, v) ∈ l
  | [], _, _, h => by simp at h
  | (k, w) :: r, x, v, h => by
    rw [List.lookup_cons] at h
    cases hb : x == k with
    | true =>
      rw [hb] at h
      cases h
      rw [beq_iff_eq] at hb
      subst hb
      exact List.mem_cons_self
    | false =>
      rw [hb] at h
      exact List.mem_cons_of_mem _ (mem_of_lk h)
section
variable {P : Program} {w : World} {K : PySem.W.Frag} {mg : Str → Option Value} {base : Heap} {ca : Nat → Addr} {T : Tab} {dfs : List Df} {sub : Nat → Nat → Option Bool} {n : Nat}
/-- what the module's names are, but the defs -/
structure Base (T : Tab) (w : World) (K : PySem.W.Frag) (mg : Str → Option Value) (ca : Nat → Addr) : Prop where
  glob : ∀ x d, T.globs.lookup x = some d → ∃ v u, mg x = some u ∧ RelV v u ∧ ∀ Hf, Rp K Hf v d
  mp : ∀ x kvs, T.mps.lookup x = some kvs → ∃ m, mg x = some (.ref m) ∧ MapIs K w m kvs
  blt : ∀ x ∈ blts, mg x = none
  ex : ∀ x i, T.exs.lookup x = some i → mg x = some (.ref (ca i)) ∧ PySem.W.keepIn K (.ref (ca i)) = true ∧ PySem.W.excIn K (ca i) [.type "ValueError", .type "Exception", .type "BaseException", .type "object"] "ValueError.__new__" = true ∧
    PySem.W.subIn K (.ref (ca i)) (.type "BaseException") = some true ∧ PySem.W.typeIn K (.ref (ca i)) = some (.type "type")
/-- where a def stands -/
def DefAt (K : PySem.W.Frag) (mg : Str → Option Value) (d : Df) : Prop := ∃ f fd qual, mg d.name = some (.ref f) ∧ Fun K d.name qual d.st f fd ∧ ∀ us : List Value, us.length = d.ps.length → bindArgs fd ⟨us, []⟩ = pure (d.ps.zip us)
theorem step_ok {k : Nat} {C : Calls} (hsub : ∀ i j b, sub i j = some b → PySem.W.exmOne K (.ref (ca i)) (.ref (ca j)) = some b) (F : Facts T P w K mg base ca C k) {d : Df} (hd : dfB T d = true) {f : Addr} {fd : FuncData} {qual : Str} (Fn : Fun K d.name qual d.st f fd) :
    FnOk P w K mg base (L2.CX P w) (k + 1) f fd d.ps (spD K ca d.fn.np fun ds => outcome (evB C sub n d.fn.body (entry d.fn.ns ds))) := by
  unfold dfB at hd
  simp only [Bool.and_eq_true, decide_eq_true_eq] at hd
  obtain ⟨⟨⟨h1, h2⟩, h3⟩, h4⟩ := hd
  have S := scope_ok h1
  have := fn_spD (P := P) (w := w) (mg := mg) (base := base) (ca := ca) (k := k) (mb := fun s => evB C sub n d.fn.body s) Fn S h2 fun X W e1 e2 e3 e4 e5 e6 e7 e8 e9 e10 e11 e12 tk po => by
    subst e1; subst e2; subst e3; subst e4; subst e5
    exact sB (c := ⟨d.N, defScope d.st, fun _ => true⟩) hsub F ⟨⟨e6, S.nd, e7, funext fun x => e11 x, e8, e12⟩, e9, e10, S.kind, po⟩ tk d.fn.body (defBody d.st) h4
  rw [h3] at this
  exact this
/-- the promise of a def at a level -/
theorem spD_run {k i : Nat} {d : Df} (h : dfs[i]? = some d) (vs : List V) (H : Hp) (Q : VK) (E : XK) (q : spD K ca d.fn.np (run (tabOf dfs) sub n (k + 1) i) vs H Q E) :
    spD K ca d.fn.np (fun ds => outcome (evB (run (tabOf dfs) sub n k) sub n d.fn.body (entry d.fn.ns ds))) vs H Q E := by
  obtain ⟨Hf, ds, f, r, hl, p⟩ := q
  refine ⟨Hf, ds, f, r, hl, ?_⟩
  have e : run (tabOf dfs) sub n (k + 1) i ds = outcome (evB (run (tabOf dfs) sub n k) sub n d.fn.body (entry d.fn.ns ds)) := by
    show (match tabOf dfs i with | some fn => if ds.length = fn.np then outcome (evB (run (tabOf dfs) sub n k) sub n fn.body (entry fn.ns ds)) else .st | none => .st) = _
    unfold tabOf
    rw [h]
    show (if ds.length = d.fn.np then _ else _) = _
    rw [if_pos hl]
  rw [e] at p
  exact p
theorem fn_at {k i : Nat} {d : Df} (hsub : ∀ i j b, sub i j = some b → PySem.W.exmOne K (.ref (ca i)) (.ref (ca j)) = some b) (F : Facts T P w K mg base ca (run (tabOf dfs) sub n k) k) (h : dfs[i]? = some d) (hd : dfB T d = true) {f : Addr} {fd : FuncData} {qual : Str} (Fn : Fun K d.name qual d.st f fd) :
    FnOk P w K mg base (L2.CX P w) (k + 1) f fd d.ps (spD K ca d.fn.np (run (tabOf dfs) sub n (k + 1) i)) := (step_ok hsub F hd Fn).imp fun vs H Q E q => spD_run h vs H Q E q
theorem facts_at (hsub : ∀ i j b, sub i j = some b → PySem.W.exmOne K (.ref (ca i)) (.ref (ca j)) = some b) (B : Base T w K mg ca) (hd : ∀ (i : Nat) (d : Df), dfs[i]? = some d → dfB T d = true) (hf : fnsB T dfs = true) (hF : ∀ (i : Nat) (d : Df), dfs[i]? = some d → DefAt K mg d) :
    ∀ k, Facts T P w K mg base ca (run (tabOf dfs) sub n k) k := by
  have get : ∀ x i m, T.fns.lookup x = some (i, m) → ∃ d, dfs[i]? = some d ∧ d.name = x ∧ d.fn.np = m := by
    intro x i m h
    have := List.all_eq_true.mp hf _ (mem_of_lookup h)
    dsimp only at this
    split at this
    · rename_i d e
      simp only [Bool.and_eq_true, beq_iff_eq, decide_eq_true_eq] at this
      exact ⟨d, e, this.1, this.2⟩
    · cases this
  intro k
  induction k with
  | zero =>
    refine ⟨fun x i m h => ?_, B.glob, B.mp, B.blt, B.ex⟩
    obtain ⟨d, e, rfl, rfl⟩ := get x i m h
    obtain ⟨f, fd, q, m, Fn, b⟩ := hF i d e
    refine ⟨f, fd, d.ps, m, Fn.kp, .all b, ⟨fun vs H Q E q => ?_, fun A outer s H args us vs Q E _ _ _ _ q => ?_⟩⟩
    · obtain ⟨Hf, ds, _, _, _, p⟩ := q; exact p.elim
    · obtain ⟨Hf, ds, _, _, _, p⟩ := q; exact p.elim
  | succ k ih =>
    refine ⟨fun x i m h => ?_, B.glob, B.mp, B.blt, B.ex⟩
    obtain ⟨d, e, rfl, rfl⟩ := get x i m h
    obtain ⟨f, fd, q, m, Fn, b⟩ := hF i d e
    exact ⟨f, fd, d.ps, m, Fn.kp, .all b, fn_at hsub ih e (hd i d e) Fn⟩
/-- the law's promise where its run says True -/
def spT (K : PySem.W.Frag) (F : List D → Rs EV) : Sp := fun vs H Q _ => ∃ Hf ds, Same Hf H ∧ RpAll K Hf vs ds ∧ ds.length = 1 ∧ F ds = .ok (.dat (.bool true)) ∧ ∀ H', Q (.bl true) H'
theorem sp_true {F : List D → Rs EV} {H : Hp} {a : Addr} {ns : List Int} (hS : SqL K H a (ns.map V.int)) (e : F [.list (ns.map PyData.int)] = .ok (.dat (.bool true))) : spT K F [.ref a] H (fun v _ => v = .bl true) fun _ _ _ => False := by
  refine ⟨H, [.list (ns.map PyData.int)], Same.refl _, .cons (.lst hS ?_) .nil, rfl, e, fun _ => rfl⟩
  clear hS e
  induction ns with
  | nil => exact .nil
  | cons x r ih => exact .cons (.int _) ih
theorem law_end {k iL : Nat} {d : Df} {fa : Addr} (hsub : ∀ i j b, sub i j = some b → PySem.W.exmOne K (.ref (ca i)) (.ref (ca j)) = some b) (B : Base T w K mg ca) (hd : ∀ (i : Nat) (d : Df), dfs[i]? = some d → dfB T d = true) (hf : fnsB T dfs = true) (hF : ∀ (i : Nat) (d : Df), dfs[i]? = some d → DefAt K mg d)
    (hL : dfs[iL]? = some d) (hn : mg d.name = some (.ref fa)) (hps : d.ps = ([("script" : Str)] : List Str)) (hnp : d.fn.np = 1) :
    ∃ fd : FuncData, (∀ (s : Shared) (u : Value), BindsTo s fd ⟨[u], []⟩ [("script", u)]) ∧ ∀ base : Heap, K.In base → base.Ns mainGlobals mg → FnOk P w K mg base (L2.CX P w) (k + 1) fa fd ["script"] (spT K (run (tabOf dfs) sub n (k + 1) iL)) := by
  obtain ⟨f, fd, q, m, Fn, b⟩ := hF iL d hL
  have e : f = fa := by
    have := m.symm.trans hn
    cases this
    rfl
  subst e
  refine ⟨fd, fun s u => .of_eq ?_, fun base _ _ => ?_⟩
  · have := b [u] (by rw [hps]; rfl)
    rw [hps] at this
    exact this
  · have F := facts_at (P := P) (w := w) (base := base) (n := n) hsub B hd hf hF k
    have G := fn_at (n := n) hsub F hL (hd iL d hL) Fn
    rw [hps] at G
    refine G.imp fun vs H Q E ⟨Hf, ds, f1, r1, l1, e1, q1⟩ => ⟨Hf, ds, f1, r1, by rw [hnp]; exact l1, ?_⟩
    rw [e1]
    intro u Hf' H' g r
    have r : Rp K Hf' u (.bool true) := r
    cases r
    exact q1 H'
theorem def_mk {h : Heap} (X : K.In h) (G : h.Ns mainGlobals mg) (d : Df) {f : Addr} {oc kV dc pm cd ct : Value} {od an : Option Addr} {sl : Array (Option Value)} (a : PySem.W.nsIn K mainGlobals d.name = some (some (.ref f)))
    (l : K.lookup f = some ⟨oc, od, .func (PySem.W.fnOf d.name d.name (defArgs d.st) (defBody d.st) (defScope d.st) .none kV dc pm an cd ct), sl⟩) (c : PySem.W.codeIn K cd d.name = true) (k : PySem.W.keepIn K (.ref f) = true)
    (hb : ∀ us : List Value, us.length = d.ps.length → bindArgs (PySem.W.fnOf d.name d.name (defArgs d.st) (defBody d.st) (defScope d.st) .none kV dc pm an cd ct) ⟨us, []⟩ = pure (d.ps.zip us)) : DefAt K mg d := ⟨f, _, d.name, PySem.W.mg_of X G a, fun_mk l c k, hb⟩
theorem glob_mk {h : Heap} (X : K.In h) (G : h.Ns mainGlobals mg) {x : Str} {d : D} {u : Value} (a : PySem.W.nsIn K mainGlobals x = some (some u)) (r : ∃ v, RelV v u ∧ ∀ Hf, Rp K Hf v d) : ∃ v u, mg x = some u ∧ RelV v u ∧ ∀ Hf, Rp K Hf v d := by
  obtain ⟨v, r1, r2⟩ := r
  exact ⟨v, u, PySem.W.mg_of X G a, r1, r2⟩
theorem exm_mk {K : PySem.W.Frag} {C S : Addr} {b : Bool} (h1 : PySem.W.subIn K (.ref S) (.type "BaseException") = some true) (h2 : PySem.W.isClsIn K S = true) (h3 : PySem.W.typeIn K (.ref S) = some (.type "type")) (h4 : PySem.W.subIn K (.ref C) (.ref S) = some b) :
    PySem.W.exmOne K (.ref C) (.ref S) = some b := by
  have e1 : (PySem.W.subIn K (.ref S) (.type "BaseException") == some true) = true := by rw [h1] <;> rfl
  have e2 : ((PySem.W.clsIn K S).isSome && PySem.W.typeIn K (.ref S) == some (.type "type")) = true := by
    have h2' : (PySem.W.clsIn K S).isSome = true := h2
    rw [h2', h3] <;> rfl
  show (if (PySem.W.subIn K (.ref S) (.type "BaseException") == some true) = true then (if ((PySem.W.clsIn K S).isSome && PySem.W.typeIn K (.ref S) == some (.type "type")) = true then PySem.W.subIn K (.ref C) (.ref S) else none) else none) = some b
  rw [if_pos e1, if_pos e2]
  exact h4
end
/-! ### what the top has written -/
/-- a constant of the module, read in its written part -/
def readD (K : PySem.W.Frag) : Nat → Value → Option D
  | _, .none => some .none
  | _, .bool b => some (.bool b)
  | _, .int i _ => some (.int i)
  | _, .str x _ => some (.str x)
  | 0, _ => none
  | n + 1, .ref a => match K.lookup a with
    | some ⟨c, d, .seq its _, _⟩ => if decide (its.size ≤ 16777216) then
        if c == .type "tuple" then (its.toList.mapM (readD K n)).map .tuple
        else if c == .type "list" && d.isNone then (its.toList.mapM (readD K n)).map .list else none
      else none
    | _ => none
  | _, _ => none
theorem mapM_rp {K : PySem.W.Frag} {f : Value → Option D} (h : ∀ u d, f u = some d → ∃ v, RelV v u ∧ ∀ Hf, Rp K Hf v d) : ∀ (l : List Value) (ds : List D), l.mapM f = some ds → ∃ vs, Vals vs l ∧ ∀ Hf, RpAll K Hf vs ds
  | [], ds, e => by simp at e; subst e; exact ⟨[], .nil, fun _ => .nil⟩
  | u :: r, ds, e => by
    rw [List.mapM_cons] at e
    cases e1 : f u with
    | none => rw [e1] at e; cases e
    | some d =>
      rw [e1] at e
      cases e2 : r.mapM f with
      | none => rw [e2] at e; cases e
      | some dr =>
        rw [e2] at e
        cases e
        obtain ⟨v, r1, p1⟩ := h u d e1
        obtain ⟨vs, r2, p2⟩ := mapM_rp h r dr e2
        exact ⟨v :: vs, .cons r1 r2, fun Hf => .cons (p1 Hf) (p2 Hf)⟩
theorem readD_ok {K : PySem.W.Frag} : ∀ (n : Nat) (u : Value) (d : D), readD K n u = some d → ∃ v, RelV v u ∧ ∀ Hf, Rp K Hf v d := by
  intro n
  induction n with
  | zero =>
    intro u d h
    unfold readD at h
    split at h
    · cases h; exact ⟨.non, rfl, fun _ => .non⟩
    · cases h; exact ⟨.bl _, rfl, fun _ => .bl _⟩
    · cases h; exact ⟨.int _, ⟨_, rfl⟩, fun _ => .int _⟩
    · cases h; exact ⟨.str _, ⟨_, rfl⟩, fun _ => .str _⟩
    · cases h
    · contradiction
    · cases h
  | succ n ih =>
    intro u d h
    unfold readD at h
    split at h
    · cases h; exact ⟨.non, rfl, fun _ => .non⟩
    · cases h; exact ⟨.bl _, rfl, fun _ => .bl _⟩
    · cases h; exact ⟨.int _, ⟨_, rfl⟩, fun _ => .int _⟩
    · cases h; exact ⟨.str _, ⟨_, rfl⟩, fun _ => .str _⟩
    · contradiction
    · rename_i n' a hn
      cases hn
      split at h
      · rename_i c dd its m sl e
        split at h
        · rename_i hz
          have hz : its.size ≤ 16777216 := by simpa using hz
          split at h
          · rename_i hc
            rw [beq_iff_eq] at hc
            subst hc
            obtain ⟨ds, e2, rfl⟩ := Option.map_eq_some_iff.mp h
            obtain ⟨vs, r1, r2⟩ := mapM_rp ih _ _ e2
            exact ⟨.ref a, rfl, fun Hf => .tup (.inr ⟨_, its, m, e, rfl, rfl, by rw [sizeLine_eq]; exact hz, r1⟩) (r2 Hf)⟩
          · split at h
            · rename_i hc
              rw [Bool.and_eq_true, beq_iff_eq] at hc
              obtain ⟨rfl, hd⟩ := hc
              have hd : dd = none := by cases dd with | none => rfl | some _ => cases hd
              subst hd
              obtain ⟨ds, e2, rfl⟩ := Option.map_eq_some_iff.mp h
              obtain ⟨vs, r1, r2⟩ := mapM_rp ih _ _ e2
              exact ⟨.ref a, rfl, fun Hf => .lst (.inr ⟨_, its, m, e, rfl, rfl, rfl, by rw [sizeLine_eq]; exact hz, r1⟩) (r2 Hf)⟩
            · cases h
        · cases h
      · cases h
    · cases h
def readIs (K : PySem.W.Frag) (u : Value) (d : D) : Bool := match readD K 8 u with
  | some e => beqD e d
  | none => false
theorem readIs_ok {K : PySem.W.Frag} {u : Value} {d : D} (h : readIs K u d = true) : ∃ v, RelV v u ∧ ∀ Hf, Rp K Hf v d := by
  unfold readIs at h
  split at h
  · rename_i e q
    cases beqD_eq h
    exact readD_ok 8 u _ q
  · cases h
/-- a module's dict -/
def mapIsB (K : PySem.W.Frag) (a : Addr) : List (Str × D) → Bool
  | [] => true
  | (x, d) :: r => (match PySem.W.nsIn K a x with | some (some u) => readIs K u d | _ => false) && mapIsB K a r
theorem mapIs_ok {K : PySem.W.Frag} {w : World} {a : Addr} {es : Array DictEntry} {n : Nat} {kvs : List (Str × D)} (hl : K.lookup a = some ⟨.type "dict", none, .dict es n, #[]⟩) (hk : PySem.W.KeysLit w.params es.toList) (h : mapIsB K a kvs = true) : MapIs K w a kvs := by
  intro z d e
  have m := mem_of_lookup e
  clear e
  induction kvs with
  | nil => cases m
  | cons p r ih =>
    obtain ⟨x, d'⟩ := p
    unfold mapIsB at h
    rw [Bool.and_eq_true] at h
    rcases List.mem_cons.mp m with e | m
    · cases e
      have h1 := h.1
      split at h1
      · rename_i u q
        obtain ⟨v, r1, r2⟩ := readIs_ok h1
        exact ⟨v, ⟨es, n, u, hl, hk, q, r1⟩, r2⟩
      · cases h1
    · exact ih h.2 m
end DV

namespace DV
open PySem PySem.Spec PyProof.Rows
/-! ### plain rules for the evaluator -/
theorem okD_int (i : Int) : okD (.int i) = true := rfl
theorem okD_str (x : Str) : okD (.str x) = true := rfl
theorem eqD_int (i j : Int) : eqD (.int i) (.int j) = some (i == j) := by
  simp [eqD, okD, PyData.plain, PyData.depth, eqv, PyData.eqv]
theorem eqD_str (x y : Str) : eqD (.str x) (.str y) = some (x == y) := by
  simp [eqD, okD, PyData.plain, PyData.depth, eqv, PyData.eqv]
theorem eqD_bool (x y : Bool) : eqD (.bool x) (.bool y) = some (x == y) := by
  simp [eqD, okD, PyData.plain, PyData.depth, eqv, PyData.eqv]
theorem ltD_int (i j : Int) : ltD (.int i) (.int j) = some (decide (i < j)) := by
  simp [ltD, okD, PyData.plain, PyData.depth, PySem.W.alike, isNone, PySem.W.dataLt_int]
theorem gtD_int (i j : Int) : gtD (.int i) (.int j) = some (decide (j < i)) := by
  simp [gtD, okD, PyData.plain, PyData.depth, PySem.W.alike, isNone, PySem.W.dataLt_int]
theorem toO_bind {α β : Type} (r : Rs α) (f : α → Rs β) : (r >>= f) = Rs.bind r f := rfl
@[simp] theorem rb_ok {α β : Type} (a : α) (f : α → Rs β) : Rs.bind (.ok a) f = f a := rfl
@[simp] theorem rb_ex {α β : Type} (x : XV) (f : α → Rs β) : Rs.bind (.ex x) f = .ex x := rfl
@[simp] theorem rb_st {α β : Type} (f : α → Rs β) : Rs.bind (.st) f = .st := rfl
@[simp] theorem andThen_nx (s : Slots) (f : Slots → Option Fl) : andThen (some (.nx s)) f = f s := rfl
@[simp] theorem andThen_rt (v : EV) (f : Slots → Option Fl) : andThen (some (.rt v)) f = some (.rt v) := rfl
@[simp] theorem andThen_bk (s : Slots) (f : Slots → Option Fl) : andThen (some (.bk s)) f = some (.bk s) := rfl
@[simp] theorem andThen_ct (s : Slots) (f : Slots → Option Fl) : andThen (some (.ct s)) f = some (.ct s) := rfl
@[simp] theorem andThen_ex (x : XV) (s : Slots) (f : Slots → Option Fl) : andThen (some (.ex x s)) f = some (.ex x s) := rfl
/-- a loop whose turns all end next -/
theorem forL_all {put : D → Slots → Option Slots} {body : Slots → Option Fl} (P : Nat → Slots → Prop) : ∀ (ds : List D) (i : Nat) (s : Slots), P i s →
    (∀ j d s, ds[j]? = some d → P (i + j) s → ∃ s1 s2, put d s = some s1 ∧ (body s1 = some (.nx s2) ∨ body s1 = some (.ct s2)) ∧ P (i + j + 1) s2) → ∃ s', forL put body ds s = some (.nx s') ∧ P (i + ds.length) s'
  | [], i, s, h, _ => ⟨s, rfl, h⟩
  | d :: r, i, s, h, k => by
    obtain ⟨s1, s2, e1, e2, h2⟩ := k 0 d s rfl h
    obtain ⟨s', e3, h3⟩ := forL_all P r (i + 1) s2 h2 fun j d' s' e p => by
      have := k (j + 1) d' s' e (by rw [← Nat.add_assoc, Nat.add_right_comm]; exact p)
      rw [← Nat.add_assoc, Nat.add_right_comm i j 1] at this
      exact this
    refine ⟨s', ?_, ?_⟩
    · show (match put d s with
        | some s1 => match body s1 with
          | some (.nx s2) => forL put body r s2
          | some (.ct s2) => forL put body r s2
          | some (.bk s2) => some (.nx s2)
          | x => x
        | none => none) = _
      rw [e1]
      rcases e2 with e2 | e2
      · show (match body s1 with
          | some (.nx s2) => forL put body r s2
          | some (.ct s2) => forL put body r s2
          | some (.bk s2) => some (.nx s2)
          | x => x) = _
        rw [e2]; exact e3
      · show (match body s1 with
          | some (.nx s2) => forL put body r s2
          | some (.ct s2) => forL put body r s2
          | some (.bk s2) => some (.nx s2)
          | x => x) = _
        rw [e2]; exact e3
    · rw [List.length_cons, Nat.add_comm r.length 1, ← Nat.add_assoc]
      exact h3
/-! ### the draws -/
def bIn : Stms := (.cons (.ite (.cmp .gt (.var 5) (.lit (.int 0))) (.cons (.app 2 (.bin .mod (.blt .int (.cons (.var 5) .nil)) (.lit (.int 1009)))) (.cons (.asg (.var 5) (.bin .fdiv (.var 5) (.lit (.int 1009)))) .nil)) .nil) .nil)
def bCell : Stms := (.cons (.asg (.var 5) (.blt .abs (.cons (.var 4) .nil))) (.cons (.asg (.var 3) (.bin .mod (.blt .int (.cons (.bin .add (.bin .add (.bin .mul (.var 3) (.lit (.int 48271))) (.var 5)) (.lit (.int 11))) .nil)) (.lit (.int 2147483647)))) (.cons (.ite (.cmp .ge (.var 5) (.bin .pow (.lit (.int 10)) (.lit (.int 18)))) (.cons (.for (.var 6) (.range1 (.lit (.int 60))) bIn) .nil) (.cons (.app 2 (.bin .mod (.bin .fdiv (.blt .int (.cons (.bin .add (.bin .mul (.var 3) (.lit (.int 16807))) (.lit (.int 5))) .nil)) (.lit (.int 3))) (.lit (.int 65521)))) .nil)) .nil)))
def bMore : Stms := (.cons (.ite (.cmp .lt (.blt .len (.cons (.var 2) .nil)) (.var 1)) (.cons (.asg (.var 3) (.bin .mod (.blt .int (.cons (.bin .add (.bin .add (.bin .mul (.var 3) (.lit (.int 69621))) (.var 6)) (.lit (.int 1))) .nil)) (.lit (.int 2147483647)))) (.cons (.app 2 (.bin .mod (.bin .fdiv (.blt .int (.cons (.var 3) .nil)) (.lit (.int 7))) (.lit (.int 65521)))) .nil)) .nil) .nil)
def bDraws : Stms := (.cons (.asg (.var 2) (.lst .nil)) (.cons (.asg (.var 3) (.lit (.int 7))) (.cons (.for (.var 4) (.ex (.slice (.var 0) .none (.some (.lit (.int 63))))) bCell) (.cons (.for (.var 6) (.range1 (.var 1)) bMore) (.cons (.ret (.slice (.var 2) .none (.some (.var 1)))) .nil)))))
def st7 (sc : D) (m : Int) (ds : List Int) (seed : Int) (c nb k : Option SV) : Slots := [some (.dat sc), some (.dat (.int m)), some (.own (.list (ds.map .int))), some (.dat (.int seed)), c, nb, k]
theorem log2_lt {x : Nat} (h : x < 2 ^ 64) : x.log2 < 64 := by
  by_cases z : x = 0
  · subst z; decide
  · exact (Nat.log2_lt z).mpr h
theorem mulD_small {i j : Int} (hi : i.natAbs < 2 ^ 64) (hj : j.natAbs < 2 ^ 64) : mulD (.int i) (.int j) = some (.dat (.int (i * j))) := by
  have h1 := log2_lt hi
  have h2 := log2_lt hj
  simp only [mulD]
  rw [if_pos (by omega)]
theorem fdivD_small {i j : Int} (h0 : 0 < j) (hj : j.natAbs < 2 ^ 64) : fdivD (.int i) (.int j) = some (.dat (.int (i / j))) := by
  have h2 := log2_lt hj
  simp only [fdivD]
  rw [if_pos (by simp [h0]; omega)]
theorem modD_pos {i j : Int} (h0 : 0 < j) : modD (.int i) (.int j) = some (.dat (.int (i % j))) := by
  simp only [modD]
  rw [if_pos h0]
theorem addD_int (i j : Int) : addD (.int i) (.int j) = some (.dat (.int (i + j))) := rfl
theorem cutL_take {α : Type} (xs : List α) (m : Nat) : cutL xs none (some (m : Int)) = xs.take m := by
  unfold cutL
  rw [HT.sIx_none, HT.sIx_nat, List.drop_zero, Nat.sub_zero]
  rw [List.take_eq_take_iff]
  omega
/-- draws are small -/
def OkL (ds : List Int) : Prop := ∀ d ∈ ds, 0 ≤ d ∧ d < 65521
theorem OkL.snoc {ds : List Int} {d : Int} (h : OkL ds) (h0 : 0 ≤ d) (h1 : d < 65521) : OkL (ds ++ [d]) := by
  intro x hx
  rcases List.mem_append.mp hx with hx | hx
  · exact h x hx
  · rw [List.mem_singleton] at hx; subst hx; exact ⟨h0, h1⟩
section
variable {C : Calls} {sub : Nat → Nat → Option Bool} {n : Nat} {sc : D} {m seed nb : Int} {ds : List Int} {c k : Option SV}
theorem in_pos (h : 0 < nb) (hl : ds.length < 16777216) : evB C sub n bIn (st7 sc m ds seed c (some (.dat (.int nb))) k) = some (.nx (st7 sc m (ds ++ [nb % 1009]) seed c (some (.dat (.int (nb / 1009)))) k)) := by
  simp [bIn, st7, evB, evS, evT, evE, evD, evF, getS, cmpD, gtD_int, h, ownL, bfD, binD, modD, appS, hl, asgS, EV.slot, fdivD_small]
theorem in_neg (h : ¬ 0 < nb) : evB C sub n bIn (st7 sc m ds seed c (some (.dat (.int nb))) k) = some (.nx (st7 sc m ds seed c (some (.dat (.int nb))) k)) := by
  simp [bIn, st7, evB, evS, evT, evE, evD, evF, getS, cmpD, gtD_int, h]
theorem in_loop (L : Nat) (hL : L + 60 < 16777216) (h0 : 0 ≤ nb) (hd : OkL ds) (hl : ds.length ≤ L) :
    ∃ ds' nb' k', forL (Tg.var 6).put (evB C sub n bIn) (rangeL 0 60) (st7 sc m ds seed c (some (.dat (.int nb))) k) = some (.nx (st7 sc m ds' seed c nb' k')) ∧ OkL ds' ∧ ds'.length ≤ L + 60 := by
  have := forL_all (put := (Tg.var 6).put) (body := evB C sub n bIn) (fun j s => ∃ ds nb k, s = st7 sc m ds seed c (some (.dat (.int nb))) k ∧ 0 ≤ nb ∧ OkL ds ∧ ds.length ≤ L + j) (rangeL 0 60) 0 _ ⟨ds, nb, k, rfl, h0, hd, hl⟩ (by
    rintro j d s hj ⟨ds, nb, k, rfl, h0, hd, hl⟩
    have hj : j < 60 := by
      have := (List.getElem?_eq_some_iff.mp hj).1
      rw [rangeL_length] at this
      omega
    refine ⟨st7 sc m ds seed c (some (.dat (.int nb))) (some (.dat d)), ?_⟩
    by_cases hp : 0 < nb
    · refine ⟨_, rfl, .inl (in_pos hp (by omega)), _, _, _, rfl, Int.ediv_nonneg h0 (by decide), hd.snoc (Int.emod_nonneg _ (by decide)) ?_, by rw [List.length_append, List.length_singleton]; omega⟩
      have := Int.emod_lt_of_pos nb (show (0 : Int) < 1009 by decide)
      omega
    · exact ⟨_, rfl, .inl (in_neg hp), _, _, _, rfl, h0, hd, by omega⟩)
  obtain ⟨s', e, ds', nb', k', rfl, h0', hd', hl'⟩ := this
  refine ⟨ds', _, k', e, hd', ?_⟩
  rw [rangeL_length] at hl'
  omega
theorem cell_turn (L : Nat) (hL : L + 60 < 16777216) (v : Int) (hs : 0 ≤ seed) (hs2 : seed < 2147483647) (hd : OkL ds) (hl : ds.length ≤ L) {nb k : Option SV} :
    ∃ ds' seed' nb' k', evB C sub n bCell (st7 sc m ds seed (some (.dat (.int v))) nb k) = some (.nx (st7 sc m ds' seed' (some (.dat (.int v))) nb' k')) ∧ 0 ≤ seed' ∧ seed' < 2147483647 ∧ OkL ds' ∧ ds'.length ≤ L + 60 := by
  have hm : mulD (.int seed) (.int 48271) = some (.dat (.int (seed * 48271))) := mulD_small (by omega) (by decide)
  have hab : 0 ≤ (if v < 0 then -v else v) := by split <;> omega
  generalize hv : (if v < 0 then -v else v) = w at hab
  have hs' : 0 ≤ (seed * 48271 + w + 11) % 2147483647 := Int.emod_nonneg _ (by decide)
  have hs2' : (seed * 48271 + w + 11) % 2147483647 < 2147483647 := Int.emod_lt_of_pos _ (by decide)
  generalize hg : (seed * 48271 + w + 11) % 2147483647 = sd at hs' hs2'
  have hm2 : mulD (.int sd) (.int 16807) = some (.dat (.int (sd * 16807))) := mulD_small (by omega) (by decide)
  by_cases hw : 1000000000000000000 ≤ w
  · obtain ⟨ds', nb', k', e, hd', hl'⟩ := in_loop (C := C) (sub := sub) (n := n) (sc := sc) (m := m) (seed := sd) (c := some (.dat (.int v))) (k := k) L hL hab hd hl
    refine ⟨ds', sd, nb', k', ?_, hs', hs2', hd', hl'⟩
    have hw' : ¬ w < 1000000000000000000 := by omega
    have e' : forL (fun d s => some (s.set 6 (some (SV.dat d)))) (evB C sub n bIn) (rangeL 0 60) (st7 sc m ds sd (some (.dat (.int v))) (some (.dat (.int w))) k) = some (.nx (st7 sc m ds' sd (some (.dat (.int v))) nb' k')) := e
    simp only [st7] at e'
    simp [bCell, st7, evB, evS, evT, evE, evD, evF, evIF, getS, cmpD, ltD_int, notO, ownL, bfD, binD, modD_pos, asgS, EV.slot, addD_int, hm, hv, hg, powD, hw', intD, Tg.put, e']
  · have hw' : w < 1000000000000000000 := by omega
    refine ⟨ds ++ [(sd * 16807 + 5) / 3 % 65521], sd, some (.dat (.int w)), k, ?_, hs', hs2', hd.snoc (Int.emod_nonneg _ (by decide)) (Int.emod_lt_of_pos _ (by decide)), by rw [List.length_append, List.length_singleton]; omega⟩
    have hl' : ds.length < 16777216 := by omega
    simp [bCell, st7, evB, evS, evT, evE, evD, evF, evIF, getS, cmpD, ltD_int, notO, ownL, bfD, binD, modD_pos, fdivD_small, asgS, EV.slot, addD_int, hm, hm2, hv, hg, powD, hw', intD, Tg.put, appS, hl']
/-- the cells of the script -/
theorem cells_loop (vs : List Int) (hv : vs.length ≤ 63) {c nb k : Option SV} :
    ∃ ds' seed' c' nb' k', forL (Tg.var 4).put (evB C sub n bCell) (vs.map PyData.int) (st7 sc m [] 7 c nb k) = some (.nx (st7 sc m ds' seed' c' nb' k')) ∧ 0 ≤ seed' ∧ seed' < 2147483647 ∧ OkL ds' ∧ ds'.length ≤ 3780 := by
  have := forL_all (put := (Tg.var 4).put) (body := evB C sub n bCell) (fun j s => ∃ ds seed c nb k, s = st7 sc m ds seed c nb k ∧ 0 ≤ seed ∧ seed < 2147483647 ∧ OkL ds ∧ ds.length ≤ 60 * j) (vs.map PyData.int) 0 _ ⟨[], 7, c, nb, k, rfl, by decide, by decide, (fun _ h => nomatch h), Nat.zero_le _⟩ (by
    rintro j d s hj ⟨ds, seed, c, nb, k, rfl, h0, h1, hd, hl⟩
    have hj2 : j < 63 := by
      have := (List.getElem?_eq_some_iff.mp hj).1
      rw [List.length_map] at this
      omega
    obtain ⟨v, _, rfl⟩ : ∃ v, vs[j]? = some v ∧ PyData.int v = d := by
      rw [List.getElem?_map] at hj
      exact Option.map_eq_some_iff.mp hj
    obtain ⟨ds', seed', nb', k', e, h0', h1', hd', hl'⟩ := cell_turn (C := C) (sub := sub) (n := n) (sc := sc) (m := m) (nb := nb) (k := k) (60 * (0 + j)) (by omega) v h0 h1 hd hl
    exact ⟨st7 sc m ds seed (some (.dat (.int v))) nb k, _, rfl, .inl e, ds', seed', _, nb', k', rfl, h0', h1', hd', by omega⟩)
  obtain ⟨s', e, ds', seed', c', nb', k', rfl, h0, h1, hd, hl⟩ := this
  refine ⟨ds', seed', c', nb', k', e, h0, h1, hd, ?_⟩
  rw [List.length_map] at hl
  omega
theorem more_turn {M : Nat} {j : Int} (hj : 0 ≤ j) (hj2 : j < 16777216) (hs : 0 ≤ seed) (hs2 : seed < 2147483647) (hd : OkL ds) (hl : ds.length < 16777216) {nb : Option SV} :
    ∃ ds' seed', evB C sub n bMore (st7 sc M ds seed c nb (some (.dat (.int j)))) = some (.nx (st7 sc M ds' seed' c nb (some (.dat (.int j))))) ∧ 0 ≤ seed' ∧ seed' < 2147483647 ∧ OkL ds' ∧ ((M ≤ ds.length ∧ ds' = ds) ∨ (ds.length < M ∧ ds'.length = ds.length + 1)) := by
  by_cases hm : ds.length < M
  · have hm1 : mulD (.int seed) (.int 69621) = some (.dat (.int (seed * 69621))) := mulD_small (by omega) (by decide)
    refine ⟨ds ++ [(seed * 69621 + j + 1) % 2147483647 / 7 % 65521], (seed * 69621 + j + 1) % 2147483647, ?_, Int.emod_nonneg _ (by decide), Int.emod_lt_of_pos _ (by decide), hd.snoc (Int.emod_nonneg _ (by decide)) (Int.emod_lt_of_pos _ (by decide)), .inr ⟨hm, by rw [List.length_append, List.length_singleton]⟩⟩
    simp [bMore, st7, evB, evS, evT, evE, evD, evF, evIF, getS, cmpD, ltD_int, notO, ownL, bfD, lenD, binD, modD_pos, fdivD_small, asgS, EV.slot, addD_int, hm1, intD, Tg.put, appS, hl, hm]
  · refine ⟨ds, seed, ?_, hs, hs2, hd, .inl ⟨by omega, rfl⟩⟩
    simp [bMore, st7, evB, evS, evT, evE, evD, evF, evIF, getS, cmpD, ltD_int, notO, ownL, bfD, lenD, hm]
theorem more_loop {M : Nat} (hM : M ≤ 100000) (hs : 0 ≤ seed) (hs2 : seed < 2147483647) (hd : OkL ds) (hl : ds.length ≤ 3780) {nb : Option SV} :
    ∃ ds' seed' k', forL (Tg.var 6).put (evB C sub n bMore) (rangeL 0 M) (st7 sc M ds seed c nb k) = some (.nx (st7 sc M ds' seed' c nb k')) ∧ OkL ds' ∧ M ≤ ds'.length := by
  have := forL_all (put := (Tg.var 6).put) (body := evB C sub n bMore) (fun j s => ∃ ds seed k, s = st7 sc M ds seed c nb k ∧ 0 ≤ seed ∧ seed < 2147483647 ∧ OkL ds ∧ ds.length ≤ 3780 + j ∧ (M ≤ ds.length ∨ j ≤ ds.length)) (rangeL 0 M) 0 _ ⟨ds, seed, k, rfl, hs, hs2, hd, by omega, .inr (Nat.zero_le _)⟩ (by
    rintro j d s hj ⟨ds, seed, k, rfl, h0, h1, hd, hl, hx⟩
    have hj2 : j < M := by
      have := (List.getElem?_eq_some_iff.mp hj).1
      rw [rangeL_length] at this
      omega
    have ed : d = .int (j : Int) := by
      obtain ⟨h1, h2⟩ := List.getElem?_eq_some_iff.mp hj
      rw [← h2]
      simp [rangeL]
    subst ed
    obtain ⟨ds', seed', e, h0', h1', hd', alt⟩ := more_turn (C := C) (sub := sub) (n := n) (sc := sc) (c := c) (nb := nb) (M := M) (ds := ds) (seed := seed) (j := (j : Int)) (by omega) (by omega) h0 h1 hd (by omega)
    refine ⟨st7 sc M ds seed c nb (some (.dat (.int j))), _, rfl, .inl e, ds', seed', _, rfl, h0', h1', hd', ?_, ?_⟩
    · rcases alt with ⟨_, rfl⟩ | ⟨_, e⟩ <;> omega
    · rcases alt with ⟨h, rfl⟩ | ⟨h, e⟩ <;> omega)
  obtain ⟨s', e, ds', seed', k', rfl, h0, h1, hd, hl, hx⟩ := this
  refine ⟨ds', seed', k', e, hd, ?_⟩
  rw [rangeL_length] at hx
  omega
theorem cutL_map (vs : List Int) (k : Nat) : cutL (vs.map PyData.int) none (some (k : Int)) = (vs.take k).map PyData.int := by rw [cutL_take, List.map_take]
theorem evB_step {st : Stm} {r : Stms} {s s' : Slots} (h : evS C sub n st s = some (.nx s')) : evB C sub n (.cons st r) s = evB C sub n r s' := by
  simp only [evB]
  rw [h]
  rfl
theorem evB_ret {st : Stm} {r : Stms} {s : Slots} {v : EV} (h : evS C sub n st s = some (.rt v)) : evB C sub n (.cons st r) s = some (.rt v) := by
  simp only [evB]
  rw [h]
  rfl
theorem evS_for {t : Tg} {it : It} {b : Stms} {s s' : Slots} {ds : List D} (h : evIF C s it = .ok ds) (h2 : forL t.put (evB C sub n b) ds s = some (.nx s')) : evS C sub n (.for t it b) s = some (.nx s') := by
  simp only [evS]
  rw [h]
  exact h2
theorem range_ok {s : Slots} {e : Ex} {v : EV} {M : Int} (h : evE C s e = .ok v) (hv : v.d = .int M) (h1 : -(2 ^ 62) ≤ M) (h2 : M < 2 ^ 62) : evIF C s (.range1 e) = .ok (rangeL 0 M) := by
  simp only [evIF]
  rw [h]
  simp only [ok_bind, hv, intD, ofO_some]
  rw [if_pos (by rw [Bool.and_eq_true]; exact ⟨decide_eq_true h1, decide_eq_true h2⟩)]
/-- what the draws are: as many as asked, each small -/
theorem draws_ok (ns : List Int) (M : Nat) (hM : M ≤ 100000) : ∃ ds : List Int, evB C sub n bDraws (entry 7 [.list (ns.map PyData.int), .int M]) = some (.rt (.new (.list (ds.map PyData.int)))) ∧ ds.length = M ∧ OkL ds := by
  obtain ⟨d1, s1, c1, n1, k1, e1, h0, h1, hd, hl⟩ := cells_loop (C := C) (sub := sub) (n := n) (sc := .list (ns.map PyData.int)) (m := M) (c := none) (nb := none) (k := none) (ns.take 63) (by rw [List.length_take]; omega)
  obtain ⟨d2, s2, k2, e2, hd2, hl2⟩ := more_loop (C := C) (sub := sub) (n := n) (sc := .list (ns.map PyData.int)) (c := c1) (nb := n1) (k := k1) hM h0 h1 hd hl
  refine ⟨d2.take M, ?_, by rw [List.length_take]; omega, fun x hx => hd2 x (List.mem_of_mem_take hx)⟩
  unfold bDraws
  rw [evB_step (s' := [some (.dat (.list (ns.map PyData.int))), some (.dat (.int M)), some (.own (.list [])), none, none, none, none]) rfl]
  rw [evB_step (s' := st7 (.list (ns.map PyData.int)) M [] 7 none none none) rfl]
  rw [evB_step (evS_for (ds := (ns.take 63).map PyData.int) ?_ e1)]
  · rw [evB_step (evS_for (range_ok (v := .dat (.int M)) (M := M) rfl rfl (by omega) (by omega)) e2)]
    apply evB_ret
    show some (Fl.rt (EV.new (.list (cutL (d2.map PyData.int) none (some (M : Int)))))) = _
    rw [cutL_map]
  · show Rs.ok (cutL (ns.map PyData.int) none (some 63)) = _
    exact congrArg Rs.ok (cutL_map ns 63)
end
end DV

namespace Z
open PySem PySem.Spec PyProof.Rows L2 DV
abbrev row : PySem.W.OpenLaw := PySem.Challenge.rw_modulewright_k20_whole_sorts
abbrev topS (i : Nat) : Stmt := PySem.Challenge.pw_modulewright_k20_whole_sorts.main.body.getD i (.Pass ⟨0, 0, 0, 0⟩)
def mp_ABOVE : List (Str × D) := [("any", .tuple [.str "any"]), ("even", .tuple [.str "any", .str "even"]), ("none", .tuple [.str "any", .str "even", .str "none", .str "odd", .str "zero"]), ("odd", .tuple [.str "any", .str "odd"]), ("zero", .tuple [.str "any", .str "even", .str "zero"])]
def b_is_sort : Stms := (.cons (.ret (.and (.cons (.isi (.var 0) .str) (.cons (.cmp .isin (.var 0) (.glob "SORTS" (.tuple [.str "any", .str "even", .str "none", .str "odd", .str "zero"]))) .nil)))) .nil)
def d0 : Df := ⟨"is_sort", topS 12, ⟨1, 1, b_is_sort⟩, ["value"], ["value"]⟩
def b_check_sorts : Stms := (.cons (.ite (.not (.blt .all (.cons (.comp (.call 0 (.cons (.var 1) .nil)) (.var 1) (.ex (.var 0)) .nil [("value", 1)]) .nil))) (.cons (.raise 1) .nil) .nil) .nil)
def d1 : Df := ⟨"check_sorts", topS 13, ⟨1, 2, b_check_sorts⟩, ["values", "value"], ["values"]⟩
def b_lies_below : Stms := (.cons (.ret (.cmp .isin (.var 1) (.mapix "ABOVE" mp_ABOVE (.var 0)))) .nil)
def d2 : Df := ⟨"lies_below", topS 14, ⟨2, 2, b_lies_below⟩, ["sort", "other"], ["sort", "other"]⟩
def b_is_below : Stms := (.cons (.expr (.call 1 (.cons (.lst (.cons (.var 0) (.cons (.var 1) .nil))) .nil))) (.cons (.ret (.call 2 (.cons (.var 0) (.cons (.var 1) .nil)))) .nil))
def d3 : Df := ⟨"is_below", topS 15, ⟨2, 2, b_is_below⟩, ["sort", "other"], ["sort", "other"]⟩
def b_joined_sort : Stms := (.cons (.asg (.var 2) (.comp (.var 3) (.var 3) (.ex (.glob "SORTS" (.tuple [.str "any", .str "even", .str "none", .str "odd", .str "zero"]))) (.cons (.and (.cons (.call 2 (.cons (.var 0) (.cons (.var 3) .nil))) (.cons (.call 2 (.cons (.var 1) (.cons (.var 3) .nil))) .nil))) .nil) [("one", 3)])) (.cons (.ret (.idx (.comp (.var 3) (.var 3) (.ex (.var 2)) (.cons (.blt .all (.cons (.comp (.call 2 (.cons (.var 3) (.cons (.var 4) .nil))) (.var 4) (.ex (.var 2)) .nil [("two", 4)]) .nil)) .nil) [("one", 3)]) (.lit (.int 0)))) .nil))
def d4 : Df := ⟨"joined_sort", topS 16, ⟨2, 5, b_joined_sort⟩, ["sort", "other", "above", "one", "two"], ["sort", "other"]⟩
def b_least_above : Stms := (.cons (.expr (.call 1 (.cons (.lst (.cons (.var 0) (.cons (.var 1) .nil))) .nil))) (.cons (.ret (.call 4 (.cons (.var 0) (.cons (.var 1) .nil)))) .nil))
def d5 : Df := ⟨"least_above", topS 17, ⟨2, 2, b_least_above⟩, ["sort", "other"], ["sort", "other"]⟩
def b_greatest_below : Stms := (.cons (.expr (.call 1 (.cons (.lst (.cons (.var 0) (.cons (.var 1) .nil))) .nil))) (.cons (.asg (.var 2) (.comp (.var 3) (.var 3) (.ex (.glob "SORTS" (.tuple [.str "any", .str "even", .str "none", .str "odd", .str "zero"]))) (.cons (.and (.cons (.call 2 (.cons (.var 3) (.cons (.var 0) .nil))) (.cons (.call 2 (.cons (.var 3) (.cons (.var 1) .nil))) .nil))) .nil) [("one", 3)])) (.cons (.ret (.idx (.comp (.var 3) (.var 3) (.ex (.var 2)) (.cons (.blt .all (.cons (.comp (.call 2 (.cons (.var 4) (.cons (.var 3) .nil))) (.var 4) (.ex (.var 2)) .nil [("two", 4)]) .nil)) .nil) [("one", 3)]) (.lit (.int 0)))) .nil)))
def d6 : Df := ⟨"greatest_below", topS 18, ⟨2, 5, b_greatest_below⟩, ["sort", "other", "below", "one", "two"], ["sort", "other"]⟩
def b_own_sort : Stms := (.cons (.ite (.cmp .eq (.var 0) (.lit (.int 0))) (.cons (.ret (.glob "ZERO" (.str "zero"))) .nil) .nil) (.cons (.ret (.ife (.cmp .eq (.bin .mod (.var 0) (.lit (.int 2))) (.lit (.int 0))) (.glob "EVEN" (.str "even")) (.glob "ODD" (.str "odd")))) .nil))
def d7 : Df := ⟨"own_sort", topS 19, ⟨1, 1, b_own_sort⟩, ["number"], ["number"]⟩
def b_has_value : Stms := (.cons (.expr (.call 1 (.cons (.lst (.cons (.var 0) .nil)) .nil))) (.cons (.ite (.or (.cons (.not (.isi (.var 1) .int)) (.cons (.isi (.var 1) .bool) (.cons (.cmp .lt (.var 1) (.lit (.int 0))) .nil)))) (.cons (.raise 2) .nil) .nil) (.cons (.ret (.call 2 (.cons (.call 7 (.cons (.var 1) .nil)) (.cons (.var 0) .nil)))) .nil)))
def d8 : Df := ⟨"has_value", topS 20, ⟨2, 2, b_has_value⟩, ["sort", "number"], ["sort", "number"]⟩
def b_law_draws : Stms := bDraws
def d9 : Df := ⟨"_law_draws", topS 22, ⟨2, 7, b_law_draws⟩, ["script", "many", "draws", "seed", "cell", "number", "k"], ["script", "many"]⟩
def b_law_numbers : Stms := (.cons (.ret (.comp (.var 1) (.var 1) (.range1 (.lit (.int 7))) (.cons (.or (.cons (.cmp .eq (.var 0) (.lit (.str "any"))) (.cons (.and (.cons (.cmp .eq (.var 0) (.lit (.str "even"))) (.cons (.cmp .eq (.bin .mod (.var 1) (.lit (.int 2))) (.lit (.int 0))) .nil))) (.cons (.and (.cons (.cmp .eq (.var 0) (.lit (.str "odd"))) (.cons (.cmp .eq (.bin .mod (.var 1) (.lit (.int 2))) (.lit (.int 1))) .nil))) (.cons (.and (.cons (.cmp .eq (.var 0) (.lit (.str "zero"))) (.cons (.cmp .eq (.var 1) (.lit (.int 0))) .nil))) .nil))))) .nil) [("number", 1)])) .nil)
def d10 : Df := ⟨"_law_numbers", topS 23, ⟨1, 2, b_law_numbers⟩, ["sort", "number"], ["sort"]⟩
def b_law_word : Stms := (.cons (.try (.cons (.ite (.cmp .eq (.var 0) (.lit (.int 0))) (.cons (.expr (.call 3 (.cons (.var 1) (.cons (.var 2) .nil)))) .nil) (.cons (.ite (.cmp .eq (.var 0) (.lit (.int 1))) (.cons (.expr (.call 5 (.cons (.var 1) (.cons (.var 2) .nil)))) .nil) (.cons (.ite (.cmp .eq (.var 0) (.lit (.int 2))) (.cons (.expr (.call 6 (.cons (.var 1) (.cons (.var 2) .nil)))) .nil) (.cons (.expr (.call 8 (.cons (.var 1) (.cons (.var 2) .nil)))) .nil)) .nil)) .nil)) .nil) (.cons 1 (.str "sort") (.cons 2 (.str "value") .nil))) (.cons (.ret (.lit (.str "none"))) .nil))
def d11 : Df := ⟨"_law_word", topS 24, ⟨3, 3, b_law_word⟩, ["call", "sort", "other"], ["call", "sort", "other"]⟩
def b_law_0 : Stms := (.cons (.ite (.or (.cons (.cmp .ne (.comp (.call 11 (.cons (.var 13) (.cons (.var 10) (.cons (.var 2) .nil)))) (.var 13) (.range1 (.lit (.int 3))) .nil [("call", 13)]) (.rep (.lst (.cons (.lit (.str "sort")) .nil)) (.lit (.int 3)))) (.cons (.cmp .ne (.comp (.call 11 (.cons (.var 13) (.cons (.var 2) (.cons (.var 10) .nil)))) (.var 13) (.range1 (.lit (.int 3))) .nil [("call", 13)]) (.rep (.lst (.cons (.lit (.str "sort")) .nil)) (.lit (.int 3)))) (.cons (.cmp .ne (.call 11 (.cons (.lit (.int 3)) (.cons (.var 10) (.cons (.lit (.none)) .nil)))) (.lit (.str "sort"))) .nil)))) (.cons (.ret (.lit (.bool false))) .nil) .nil) .nil)
def b_law_1 : Stms := (.cons (.ite (.cmp .ne (.call 11 (.cons (.lit (.int 3)) (.cons (.var 2) (.cons (.var 10) .nil)))) (.lit (.str "value"))) (.cons (.ret (.lit (.bool false))) .nil) .nil) .nil)
def b_law_2 : Stms := (.cons (.asg (.var 9) (.or (.cons (.cmp .eq (.var 2) (.lit (.str "any"))) (.cons (.and (.cons (.cmp .eq (.var 2) (.lit (.str "even"))) (.cons (.cmp .eq (.bin .mod (.var 8) (.lit (.int 2))) (.lit (.int 0))) .nil))) (.cons (.and (.cons (.cmp .eq (.var 2) (.lit (.str "odd"))) (.cons (.cmp .eq (.bin .mod (.var 8) (.lit (.int 2))) (.lit (.int 1))) .nil))) (.cons (.and (.cons (.cmp .eq (.var 2) (.lit (.str "zero"))) (.cons (.cmp .eq (.var 8) (.lit (.int 0))) .nil))) .nil)))))) (.cons (.ite (.or (.cons (.cmp .ne (.call 8 (.cons (.var 2) (.cons (.var 8) .nil))) (.var 9)) (.cons (.not (.isi (.call 8 (.cons (.var 2) (.cons (.var 8) .nil))) .bool)) .nil))) (.cons (.ret (.lit (.bool false))) .nil) .nil) .nil))
def b_law_3 : Stms := (.cons (.ite (.cmp .ne (.call 5 (.cons (.var 2) (.cons (.call 5 (.cons (.var 3) (.cons (.var 7) .nil))) .nil))) (.call 5 (.cons (.call 5 (.cons (.var 2) (.cons (.var 3) .nil))) (.cons (.var 7) .nil)))) (.cons (.ret (.lit (.bool false))) .nil) .nil) .nil)
def b_law_4 : Stms := (.cons (.asg (.var 4) (.blt .all (.cons (.comp (.cmp .isin (.var 8) (.call 10 (.cons (.var 3) .nil))) (.var 8) (.ex (.call 10 (.cons (.var 2) .nil))) .nil [("number", 8)]) .nil))) (.cons (.ite (.or (.cons (.cmp .ne (.call 3 (.cons (.var 2) (.cons (.var 3) .nil))) (.var 4)) (.cons (.not (.isi (.call 3 (.cons (.var 2) (.cons (.var 3) .nil))) .bool)) .nil))) (.cons (.ret (.lit (.bool false))) .nil) .nil) (.cons (.asg (.var 5) (.comp (.var 11) (.var 11) (.ex (.glob "SORTS" (.tuple [.str "any", .str "even", .str "none", .str "odd", .str "zero"]))) (.cons (.and (.cons (.call 3 (.cons (.var 2) (.cons (.var 11) .nil))) (.cons (.call 3 (.cons (.var 3) (.cons (.var 11) .nil))) .nil))) .nil) [("one", 11)])) (.cons (.asg (.var 6) (.comp (.var 11) (.var 11) (.ex (.glob "SORTS" (.tuple [.str "any", .str "even", .str "none", .str "odd", .str "zero"]))) (.cons (.and (.cons (.call 3 (.cons (.var 11) (.cons (.var 2) .nil))) (.cons (.call 3 (.cons (.var 11) (.cons (.var 3) .nil))) .nil))) .nil) [("one", 11)])) (.cons (.ite (.or (.cons (.cmp .notin (.call 5 (.cons (.var 2) (.cons (.var 3) .nil))) (.var 5)) (.cons (.not (.blt .all (.cons (.comp (.call 3 (.cons (.call 5 (.cons (.var 2) (.cons (.var 3) .nil))) (.cons (.var 11) .nil))) (.var 11) (.ex (.var 5)) .nil [("one", 11)]) .nil))) .nil))) (.cons (.ret (.lit (.bool false))) .nil) .nil) (.cons (.ite (.or (.cons (.cmp .notin (.call 6 (.cons (.var 2) (.cons (.var 3) .nil))) (.var 6)) (.cons (.not (.blt .all (.cons (.comp (.call 3 (.cons (.var 11) (.cons (.call 6 (.cons (.var 2) (.cons (.var 3) .nil))) .nil))) (.var 11) (.ex (.var 6)) .nil [("one", 11)]) .nil))) .nil))) (.cons (.ret (.lit (.bool false))) .nil) .nil) (.cons (.ite (.or (.cons (.cmp .ne (.call 5 (.cons (.var 3) (.cons (.var 2) .nil))) (.call 5 (.cons (.var 2) (.cons (.var 3) .nil)))) (.cons (.cmp .ne (.call 6 (.cons (.var 3) (.cons (.var 2) .nil))) (.call 6 (.cons (.var 2) (.cons (.var 3) .nil)))) .nil))) (.cons (.ret (.lit (.bool false))) .nil) .nil) (.cons (.for (.var 7) (.ex (.glob "SORTS" (.tuple [.str "any", .str "even", .str "none", .str "odd", .str "zero"]))) b_law_3) .nil))))))))
def b_law_5 : Stms := (.cons (.for (.var 3) (.ex (.glob "SORTS" (.tuple [.str "any", .str "even", .str "none", .str "odd", .str "zero"]))) b_law_4) (.cons (.for (.var 8) (.ex (.bin .add (.bin .add (.lrange (.range1 (.lit (.int 7)))) (.comp (.bin .mul (.blt .int (.cons (.idx (.var 1) (.var 12)) .nil)) (.lit (.int 65521))) (.var 12) (.range1 (.lit (.int 6))) .nil [("k", 12)])) (.lst (.cons (.bin .pow (.lit (.int 10)) (.lit (.int 30))) (.cons (.bin .add (.bin .pow (.lit (.int 10)) (.lit (.int 30))) (.lit (.int 1))) .nil))))) b_law_2) (.cons (.for (.var 10) (.ex (.lst (.cons (.lit (.none)) (.cons (.neg (.lit (.int 1))) (.cons (.lit (.bool true)) (.cons (.lit (.str "0")) (.cons (.tup (.cons (.lit (.int 1)) .nil)) .nil))))))) b_law_1) (.cons (.for (.var 10) (.ex (.lst (.cons (.lit (.none)) (.cons (.lit (.str "Any")) (.cons (.lit (.str "")) (.cons (.lit (.int 3)) (.cons (.tup (.cons (.lit (.str "any")) .nil)) .nil))))))) b_law_0) .nil))))
def b_law : Stms := (.cons (.asg (.var 1) (.call 9 (.cons (.var 0) (.cons (.lit (.int 20)) .nil)))) (.cons (.ite (.or (.cons (.cmp .ne (.blt .tuple (.cons (.glob "SORTS" (.tuple [.str "any", .str "even", .str "none", .str "odd", .str "zero"])) .nil)) (.tup (.cons (.lit (.str "any")) (.cons (.lit (.str "even")) (.cons (.lit (.str "none")) (.cons (.lit (.str "odd")) (.cons (.lit (.str "zero")) .nil))))))) (.cons (.not (.isi (.glob "SORTS" (.tuple [.str "any", .str "even", .str "none", .str "odd", .str "zero"])) .tuple)) .nil))) (.cons (.ret (.lit (.bool false))) .nil) .nil) (.cons (.for (.var 2) (.ex (.glob "SORTS" (.tuple [.str "any", .str "even", .str "none", .str "odd", .str "zero"]))) b_law_5) (.cons (.ret (.and (.cons (.cmp .eq (.call 5 (.cons (.lit (.str "even")) (.cons (.lit (.str "odd")) .nil))) (.lit (.str "any"))) (.cons (.cmp .eq (.call 6 (.cons (.lit (.str "zero")) (.cons (.lit (.str "odd")) .nil))) (.lit (.str "none"))) (.cons (.cmp .eq (.call 5 (.cons (.lit (.str "zero")) (.cons (.lit (.str "none")) .nil))) (.lit (.str "zero"))) .nil))))) .nil))))
def d12 : Df := ⟨"law", topS 25, ⟨1, 14, b_law⟩, ["script", "draws", "sort", "other", "below", "above", "under", "third", "number", "due", "wrong", "one", "k", "call"], ["script"]⟩
def dfs : List Df := [d0, d1, d2, d3, d4, d5, d6, d7, d8, d9, d10, d11, d12]
def tab : Tab := ⟨[("is_sort", (0, 1)), ("check_sorts", (1, 1)), ("lies_below", (2, 2)), ("is_below", (3, 2)), ("joined_sort", (4, 2)), ("least_above", (5, 2)), ("greatest_below", (6, 2)), ("own_sort", (7, 1)), ("has_value", (8, 2)), ("_law_draws", (9, 2)), ("_law_numbers", (10, 1)), ("_law_word", (11, 3)), ("law", (12, 1))], [("SORTS", .tuple [.str "any", .str "even", .str "none", .str "odd", .str "zero"]), ("ZERO", .str "zero"), ("EVEN", .str "even"), ("ODD", .str "odd")], [("ABOVE", mp_ABOVE)], [("ModuleError", 0), ("BadSort", 1), ("BadValue", 2)]⟩
def subT : List ((Nat × Nat) × Bool) := [((0, 0), true), ((0, 1), false), ((0, 2), false), ((1, 0), true), ((1, 1), true), ((1, 2), false), ((2, 0), true), ((2, 1), false), ((2, 2), true)]
def sub (i j : Nat) : Option Bool := subT.lookup (i, j)
theorem ok0 : dfB tab d0 = true := by decide +kernel
theorem ok1 : dfB tab d1 = true := by decide +kernel
theorem ok2 : dfB tab d2 = true := by decide +kernel
theorem ok3 : dfB tab d3 = true := by decide +kernel
theorem ok4 : dfB tab d4 = true := by decide +kernel
theorem ok5 : dfB tab d5 = true := by decide +kernel
theorem ok6 : dfB tab d6 = true := by decide +kernel
theorem ok7 : dfB tab d7 = true := by decide +kernel
theorem ok8 : dfB tab d8 = true := by decide +kernel
theorem ok9 : dfB tab d9 = true := by decide +kernel
theorem ok10 : dfB tab d10 = true := by decide +kernel
theorem ok11 : dfB tab d11 = true := by decide +kernel
theorem ok12 : dfB tab d12 = true := by decide +kernel
theorem ok_all : ∀ (i : Nat) (d : Df), dfs[i]? = some d → dfB tab d = true := fun i d h => by
  have m := List.mem_of_getElem? h
  simp only [dfs, List.mem_cons, List.not_mem_nil, or_false] at m
  rcases m with rfl | rfl | rfl | rfl | rfl | rfl | rfl | rfl | rfl | rfl | rfl | rfl | rfl
  all_goals first | exact ok0 | exact ok1 | exact ok2 | exact ok3 | exact ok4 | exact ok5 | exact ok6 | exact ok7 | exact ok8 | exact ok9 | exact ok10 | exact ok11 | exact ok12
theorem fns_ok : fnsB tab dfs = true := by decide +kernel
abbrev R (k : Nat) : Calls := run (tabOf dfs) sub 1000 k
end Z

namespace Z
open PySem PySem.Spec PyProof.Rows DV
def own (x : Int) : Str := if x = 0 then "zero" else if x % 2 = 0 then "even" else "odd"
theorem own_ok (k : Nat) (x : Int) : R (k + 1) 7 [.int x] = .ok (.dat (.str (own x))) := by
  show outcome (evB (R k) sub 1000 b_own_sort [some (.dat (.int x))]) = _
  unfold own
  by_cases h : x = 0
  · simp [b_own_sort, evB, evS, evT, evE, getS, cmpD, eqD_int, h, outcome, EV.give]
  · by_cases h2 : x % 2 = 0
    · simp [b_own_sort, evB, evS, evT, evE, getS, cmpD, eqD_int, h, h2, outcome, EV.give, binD, modD_pos]
    · simp [b_own_sort, evB, evS, evT, evE, getS, cmpD, eqD_int, h, h2, outcome, EV.give, binD, modD_pos]
def below (a b : Str) : Bool := match R 10 2 [.str a, .str b] with
  | .ok (.dat (.bool t)) => t
  | _ => false
def five : List Str := ["any", "even", "none", "odd", "zero"]
theorem below_ok : ∀ a ∈ five, ∀ b ∈ five, R 10 2 [.str a, .str b] = .ok (.dat (.bool (below a b))) := by
  intro a ha b hb
  simp only [five, List.mem_cons, List.not_mem_nil, or_false] at ha hb
  rcases ha with rfl | rfl | rfl | rfl | rfl <;> rcases hb with rfl | rfl | rfl | rfl | rfl <;> kernel_rfl
theorem own_five (x : Int) : own x ∈ five := by
  unfold own five
  split
  · simp
  · split <;> simp
theorem check_one : ∀ a ∈ five, R 10 1 [.list [.str a]] = .ok (.dat .none) := by
  intro a ha
  simp only [five, List.mem_cons, List.not_mem_nil, or_false] at ha
  rcases ha with rfl | rfl | rfl | rfl | rfl <;> kernel_rfl
theorem has_ok {a : Str} (ha : a ∈ five) {x : Int} (hx : 0 ≤ x) : R 11 8 [.str a, .int x] = .ok (.dat (.bool (below (own x) a))) := by
  show outcome (evB (R 10) sub 1000 b_has_value [some (.dat (.str a)), some (.dat (.int x))]) = _
  have hx' : ¬ x < 0 := by omega
  simp [b_has_value, evB, evS, evT, evE, evF, evOrT, getS, cmpD, ltD_int, hx', outcome, EV.give, check_one a ha, fits, isiD, own_ok, below_ok _ (own_five x) a ha]
def due (a : Str) (x : Int) : Bool := a == "any" || (a == "even" && x % 2 == 0) || (a == "odd" && x % 2 == 1) || (a == "zero" && x == 0)
theorem below_vals : (∀ a ∈ five, below "zero" a = (a == "any" || a == "even" || a == "zero")) ∧ (∀ a ∈ five, below "even" a = (a == "any" || a == "even")) ∧ (∀ a ∈ five, below "odd" a = (a == "any" || a == "odd")) := by
  refine ⟨?_, ?_, ?_⟩ <;> (intro a ha; simp only [five, List.mem_cons, List.not_mem_nil, or_false] at ha; rcases ha with rfl | rfl | rfl | rfl | rfl <;> decide +kernel)
theorem due_below {a : Str} (ha : a ∈ five) (x : Int) : below (own x) a = due a x := by
  obtain ⟨z, e, o⟩ := below_vals
  unfold own due
  by_cases h : x = 0
  · subst h
    rw [if_pos rfl, z a ha]
    simp
  · rw [if_neg h]
    by_cases h2 : x % 2 = 0
    · rw [if_pos h2, e a ha]
      simp [h, h2]
    · have h3 : x % 2 = 1 := by omega
      rw [if_neg h2, o a ha]
      simp [h, h3]
section
variable {x0 x1 x3 x4 x5 x6 x7 x9 x10 x11 x12 x13 : Option SV}
theorem num_turn {a : Str} (ha : a ∈ five) {x : Int} (hx : 0 ≤ x) : evB (R 11) sub 1000 b_law_2 [x0, x1, some (.dat (.str a)), x3, x4, x5, x6, x7, some (.dat (.int x)), x9, x10, x11, x12, x13] =
    some (.nx [x0, x1, some (.dat (.str a)), x3, x4, x5, x6, x7, some (.dat (.int x)), some (.dat (.bool (due a x))), x10, x11, x12, x13]) := by
  have e1 : evE (R 11) [x0, x1, some (.dat (.str a)), x3, x4, x5, x6, x7, some (.dat (.int x)), x9, x10, x11, x12, x13] (.or (.cons (.cmp .eq (.var 2) (.lit (.str "any"))) (.cons (.and (.cons (.cmp .eq (.var 2) (.lit (.str "even"))) (.cons (.cmp .eq (.bin .mod (.var 8) (.lit (.int 2))) (.lit (.int 0))) .nil))) (.cons (.and (.cons (.cmp .eq (.var 2) (.lit (.str "odd"))) (.cons (.cmp .eq (.bin .mod (.var 8) (.lit (.int 2))) (.lit (.int 1))) .nil))) (.cons (.and (.cons (.cmp .eq (.var 2) (.lit (.str "zero"))) (.cons (.cmp .eq (.var 8) (.lit (.int 0))) .nil))) .nil))))) = .ok (.dat (.bool (due a x))) := by
    unfold due
    cases h1 : (a == ("any" : Str)) <;> cases h2 : (a == ("even" : Str)) <;> cases h3 : (a == ("odd" : Str)) <;> cases h4 : (a == ("zero" : Str)) <;> cases h5 : (x % 2 == 0) <;> cases h6 : (x % 2 == 1) <;> cases h7 : (x == 0) <;>
      simp [evE, evOr, evAnd, getS, cmpD, eqD_int, eqD_str, binD, modD_pos, boolD, h1, h2, h3, h4, h5, h6, h7]
  unfold b_law_2
  rw [evB_step (s' := [x0, x1, some (.dat (.str a)), x3, x4, x5, x6, x7, some (.dat (.int x)), some (.dat (.bool (due a x))), x10, x11, x12, x13])]
  · simp [evB, evS, evT, evE, evF, evOrT, getS, cmpD, eqD_bool, notO, has_ok ha hx, due_below ha, isiD]
  · simp only [evS]
    rw [e1]
    rfl
end
end Z

namespace Z
open PySem PySem.Spec PyProof.Rows DV
section
variable {x0 x1 x3 x4 x5 x6 x7 x8 x9 x10 x11 x12 x13 : Option SV}
def fin (r : Option Fl) : Slots := match r with
  | some (.nx s) => s
  | _ => []
/-- the loops of a sort over what is written -/
def lOther : Stm := .for (.var 3) (.ex (.glob "SORTS" (.tuple [.str "any", .str "even", .str "none", .str "odd", .str "zero"]))) b_law_4
def eNum : Ex := (.bin .add (.bin .add (.lrange (.range1 (.lit (.int 7)))) (.comp (.bin .mul (.blt .int (.cons (.idx (.var 1) (.var 12)) .nil)) (.lit (.int 65521))) (.var 12) (.range1 (.lit (.int 6))) .nil [("k", 12)])) (.lst (.cons (.bin .pow (.lit (.int 10)) (.lit (.int 30))) (.cons (.bin .add (.bin .pow (.lit (.int 10)) (.lit (.int 30))) (.lit (.int 1))) .nil))))
def lNum : Stm := .for (.var 8) (.ex eNum) b_law_2
def lWrong : Stm := .for (.var 10) (.ex (.lst (.cons (.lit (.none)) (.cons (.neg (.lit (.int 1))) (.cons (.lit (.bool true)) (.cons (.lit (.str "0")) (.cons (.tup (.cons (.lit (.int 1)) .nil)) .nil))))))) b_law_1
def lWord : Stm := .for (.var 10) (.ex (.lst (.cons (.lit (.none)) (.cons (.lit (.str "Any")) (.cons (.lit (.str "")) (.cons (.lit (.int 3)) (.cons (.tup (.cons (.lit (.str "any")) .nil)) .nil))))))) b_law_0
theorem law5_is : b_law_5 = .cons lOther (.cons lNum (.cons lWrong (.cons lWord .nil))) := rfl
def st0 (a : Str) : Slots := [none, none, some (.dat (.str a)), none, none, none, none, none, none, none, none, none, none, none]
def y (a : Str) (i : Nat) : Option SV := (fin (evS (R 11) sub 1000 lOther (st0 a))).getD i none
theorem other_ok {a : Str} (ha : a ∈ five) : evS (R 11) sub 1000 lOther [x0, x1, some (.dat (.str a)), x3, x4, x5, x6, x7, x8, x9, x10, x11, x12, x13] = some (.nx [x0, x1, some (.dat (.str a)), y a 3, y a 4, y a 5, y a 6, y a 7, x8, x9, x10, x11, x12, x13]) := by
  simp only [five, List.mem_cons, List.not_mem_nil, or_false] at ha
  rcases ha with rfl | rfl | rfl | rfl | rfl <;> kernel_rfl
def z (st : Stm) (a : Str) : Option SV := (fin (evS (R 11) sub 1000 st (st0 a))).getD 10 none
theorem wrong_ok {a : Str} (ha : a ∈ five) : evS (R 11) sub 1000 lWrong [x0, x1, some (.dat (.str a)), x3, x4, x5, x6, x7, x8, x9, x10, x11, x12, x13] = some (.nx [x0, x1, some (.dat (.str a)), x3, x4, x5, x6, x7, x8, x9, z lWrong a, x11, x12, x13]) := by
  simp only [five, List.mem_cons, List.not_mem_nil, or_false] at ha
  rcases ha with rfl | rfl | rfl | rfl | rfl <;> kernel_rfl
theorem word_ok {a : Str} (ha : a ∈ five) : evS (R 11) sub 1000 lWord [x0, x1, some (.dat (.str a)), x3, x4, x5, x6, x7, x8, x9, x10, x11, x12, x13] = some (.nx [x0, x1, some (.dat (.str a)), x3, x4, x5, x6, x7, x8, x9, z lWord a, x11, x12, x13]) := by
  simp only [five, List.mem_cons, List.not_mem_nil, or_false] at ha
  rcases ha with rfl | rfl | rfl | rfl | rfl <;> kernel_rfl
def numsOf (d0 d1 d2 d3 d4 d5 : Int) : List Int := [0, 1, 2, 3, 4, 5, 6, d0 * 65521, d1 * 65521, d2 * 65521, d3 * 65521, d4 * 65521, d5 * 65521, 10 ^ 30, 10 ^ 30 + 1]
theorem nums_ok {x2 : Option SV} {d0 d1 d2 d3 d4 d5 : Int} {r : List Int} (h : OkL (d0 :: d1 :: d2 :: d3 :: d4 :: d5 :: r)) :
    evIF (R 11) [x0, some (.own (.list ((d0 :: d1 :: d2 :: d3 :: d4 :: d5 :: r).map PyData.int))), x2, x3, x4, x5, x6, x7, x8, x9, x10, x11, x12, x13] (.ex eNum) = .ok ((numsOf d0 d1 d2 d3 d4 d5).map PyData.int) := by
  have m : ∀ d ∈ (d0 :: d1 :: d2 :: d3 :: d4 :: d5 :: r), mulD (.int d) (.int 65521) = some (.dat (.int (d * 65521))) := fun d hd => by
    have := h d hd
    exact mulD_small (by omega) (by decide)
  have m0 := m d0 (by simp)
  have m1 := m d1 (by simp)
  have m2 := m d2 (by simp)
  have m3 := m d3 (by simp)
  have m4 := m d4 (by simp)
  have m5 := m d5 (by simp)
  have er : rangeL 0 6 = [.int 0, .int 1, .int 2, .int 3, .int 4, .int 5] := by kernel_rfl
  have er7 : rangeL 0 7 = [.int 0, .int 1, .int 2, .int 3, .int 4, .int 5, .int 6] := by kernel_rfl
  have i0 : ∀ e0 e1 e2 e3 e4 e5 : D, ∀ r : List D, L2.atI (e0 :: e1 :: e2 :: e3 :: e4 :: e5 :: r) 0 = some e0 ∧ L2.atI (e0 :: e1 :: e2 :: e3 :: e4 :: e5 :: r) 1 = some e1 ∧ L2.atI (e0 :: e1 :: e2 :: e3 :: e4 :: e5 :: r) 2 = some e2 ∧ L2.atI (e0 :: e1 :: e2 :: e3 :: e4 :: e5 :: r) 3 = some e3 ∧ L2.atI (e0 :: e1 :: e2 :: e3 :: e4 :: e5 :: r) 4 = some e4 ∧ L2.atI (e0 :: e1 :: e2 :: e3 :: e4 :: e5 :: r) 5 = some e5 := fun _ _ _ _ _ _ _ => ⟨L2.atI_nat (j := 0) rfl, L2.atI_nat (j := 1) rfl, L2.atI_nat (j := 2) rfl, L2.atI_nat (j := 3) rfl, L2.atI_nat (j := 4) rfl, L2.atI_nat (j := 5) rfl⟩
  obtain ⟨j0, j1, j2, j3, j4, j5⟩ := i0 (.int d0) (.int d1) (.int d2) (.int d3) (.int d4) (.int d5) (r.map PyData.int)
  simp [eNum, evIF, evE, evR, evD, evF, evI, evTs, compL, er, er7, DV.intD, getS, wipeS, Tg.put, idxD, j0, j1, j2, j3, j4, j5, bfD, binD, m0, m1, m2, m3, m4, m5, fits, powD, addD, itD, numsOf]
theorem num_loop {a : Str} (ha : a ∈ five) (l : List Int) (hl : ∀ x ∈ l, 0 ≤ x) : ∃ w8 w9, forL (Tg.var 8).put (evB (R 11) sub 1000 b_law_2) (l.map PyData.int) [x0, x1, some (.dat (.str a)), x3, x4, x5, x6, x7, x8, x9, x10, x11, x12, x13] =
    some (.nx [x0, x1, some (.dat (.str a)), x3, x4, x5, x6, x7, w8, w9, x10, x11, x12, x13]) := by
  have := forL_all (put := (Tg.var 8).put) (body := evB (R 11) sub 1000 b_law_2) (fun _ s => ∃ w8 w9, s = [x0, x1, some (.dat (.str a)), x3, x4, x5, x6, x7, w8, w9, x10, x11, x12, x13]) (l.map PyData.int) 0 _ ⟨x8, x9, rfl⟩ (by
    rintro j d s hj ⟨w8, w9, rfl⟩
    rw [List.getElem?_map] at hj
    obtain ⟨v, hv, rfl⟩ := Option.map_eq_some_iff.mp hj
    exact ⟨_, _, rfl, .inl (num_turn ha (hl v (List.mem_of_getElem? hv))), _, _, rfl⟩)
  obtain ⟨s', e, w8, w9, rfl⟩ := this
  exact ⟨w8, w9, e⟩
/-- a sort's turn -/
theorem sort_turn {a : Str} (ha : a ∈ five) {ds : List Int} (hd : OkL ds) (hl : ds.length = 20) : ∃ w3 w4 w5 w6 w7 w8 w9 w10, evB (R 11) sub 1000 b_law_5 [x0, some (.own (.list (ds.map PyData.int))), some (.dat (.str a)), x3, x4, x5, x6, x7, x8, x9, x10, x11, x12, x13] =
    some (.nx [x0, some (.own (.list (ds.map PyData.int))), some (.dat (.str a)), w3, w4, w5, w6, w7, w8, w9, w10, x11, x12, x13]) := by
  match ds, hd, hl with
  | d0 :: d1 :: d2 :: d3 :: d4 :: d5 :: r, hd, hl =>
    have nn : ∀ x ∈ numsOf d0 d1 d2 d3 d4 d5, 0 ≤ x := by
      intro x hx
      have h0 := hd d0 (by simp)
      have h1 := hd d1 (by simp)
      have h2 := hd d2 (by simp)
      have h3 := hd d3 (by simp)
      have h4 := hd d4 (by simp)
      have h5 := hd d5 (by simp)
      simp only [numsOf, List.mem_cons, List.not_mem_nil, or_false] at hx
      rcases hx with rfl | rfl | rfl | rfl | rfl | rfl | rfl | rfl | rfl | rfl | rfl | rfl | rfl | rfl | rfl <;> omega
    obtain ⟨w8, w9, e⟩ := num_loop (x0 := x0) (x1 := some (.own (.list ((d0 :: d1 :: d2 :: d3 :: d4 :: d5 :: r).map PyData.int)))) (x3 := y a 3) (x4 := y a 4) (x5 := y a 5) (x6 := y a 6) (x7 := y a 7) (x8 := x8) (x9 := x9) (x10 := x10) (x11 := x11) (x12 := x12) (x13 := x13) ha _ nn
    refine ⟨y a 3, y a 4, y a 5, y a 6, y a 7, w8, w9, z lWord a, ?_⟩
    rw [law5_is, evB_step (other_ok ha)]
    unfold lNum
    rw [evB_step (evS_for (nums_ok hd) e), evB_step (wrong_ok ha), evB_step (word_ok ha)]
    simp only [evB]
end
end Z

namespace Z
open PySem PySem.Spec PyProof.Rows DV
theorem sorts_loop {x0 x2 x3 x4 x5 x6 x7 x8 x9 x10 x11 x12 x13 : Option SV} {ds : List Int} (hd : OkL ds) (hl : ds.length = 20) : ∃ w2 w3 w4 w5 w6 w7 w8 w9 w10, forL (Tg.var 2).put (evB (R 11) sub 1000 b_law_5) (five.map PyData.str) [x0, some (.own (.list (ds.map PyData.int))), x2, x3, x4, x5, x6, x7, x8, x9, x10, x11, x12, x13] =
    some (.nx [x0, some (.own (.list (ds.map PyData.int))), w2, w3, w4, w5, w6, w7, w8, w9, w10, x11, x12, x13]) := by
  have := forL_all (put := (Tg.var 2).put) (body := evB (R 11) sub 1000 b_law_5) (fun _ s => ∃ w2 w3 w4 w5 w6 w7 w8 w9 w10, s = [x0, some (.own (.list (ds.map PyData.int))), w2, w3, w4, w5, w6, w7, w8, w9, w10, x11, x12, x13]) (five.map PyData.str) 0 _ ⟨x2, x3, x4, x5, x6, x7, x8, x9, x10, rfl⟩ (by
    rintro j d s hj ⟨w2, w3, w4, w5, w6, w7, w8, w9, w10, rfl⟩
    rw [List.getElem?_map] at hj
    obtain ⟨v, hv, rfl⟩ := Option.map_eq_some_iff.mp hj
    obtain ⟨u3, u4, u5, u6, u7, u8, u9, u10, e⟩ := sort_turn (x0 := x0) (x3 := w3) (x4 := w4) (x5 := w5) (x6 := w6) (x7 := w7) (x8 := w8) (x9 := w9) (x10 := w10) (x11 := x11) (x12 := x12) (x13 := x13) (List.mem_of_getElem? hv) hd hl
    exact ⟨_, _, rfl, .inl e, _, _, _, _, _, _, _, _, _, rfl⟩)
  obtain ⟨s', e, w2, w3, w4, w5, w6, w7, w8, w9, w10, rfl⟩ := this
  exact ⟨w2, w3, w4, w5, w6, w7, w8, w9, w10, e⟩
def sTest : Stm := (.ite (.or (.cons (.cmp .ne (.blt .tuple (.cons (.glob "SORTS" (.tuple [.str "any", .str "even", .str "none", .str "odd", .str "zero"])) .nil)) (.tup (.cons (.lit (.str "any")) (.cons (.lit (.str "even")) (.cons (.lit (.str "none")) (.cons (.lit (.str "odd")) (.cons (.lit (.str "zero")) .nil))))))) (.cons (.not (.isi (.glob "SORTS" (.tuple [.str "any", .str "even", .str "none", .str "odd", .str "zero"])) .tuple)) .nil))) (.cons (.ret (.lit (.bool false))) .nil) .nil)
def sLast : Stm := (.ret (.and (.cons (.cmp .eq (.call 5 (.cons (.lit (.str "even")) (.cons (.lit (.str "odd")) .nil))) (.lit (.str "any"))) (.cons (.cmp .eq (.call 6 (.cons (.lit (.str "zero")) (.cons (.lit (.str "odd")) .nil))) (.lit (.str "none"))) (.cons (.cmp .eq (.call 5 (.cons (.lit (.str "zero")) (.cons (.lit (.str "none")) .nil))) (.lit (.str "zero"))) .nil)))))
theorem law_is : b_law = .cons (.asg (.var 1) (.call 9 (.cons (.var 0) (.cons (.lit (.int 20)) .nil)))) (.cons sTest (.cons (.for (.var 2) (.ex (.glob "SORTS" (.tuple [.str "any", .str "even", .str "none", .str "odd", .str "zero"]))) b_law_5) (.cons sLast .nil))) := rfl
theorem law_true (ns : List Int) (hl : ns.length ≤ 63) : R 12 12 [.list (ns.map PyData.int)] = .ok (.dat (.bool true)) := by
  obtain ⟨ds, e, hn, hd⟩ := draws_ok (C := R 10) (sub := sub) (n := 1000) ns 20 (by decide)
  have ec : R 11 9 [.list (ns.map PyData.int), .int 20] = .ok (.new (.list (ds.map PyData.int))) := by
    show outcome (evB (R 10) sub 1000 bDraws (entry 7 [.list (ns.map PyData.int), .int ((20 : Nat) : Int)])) = _
    rw [e]
    rfl
  obtain ⟨w2, w3, w4, w5, w6, w7, w8, w9, w10, e2⟩ := sorts_loop (x0 := some (.dat (.list (ns.map PyData.int)))) (x2 := none) (x3 := none) (x4 := none) (x5 := none) (x6 := none) (x7 := none) (x8 := none) (x9 := none) (x10 := none) (x11 := none) (x12 := none) (x13 := none) hd hn
  show outcome (evB (R 11) sub 1000 b_law [some (.dat (.list (ns.map PyData.int))), none, none, none, none, none, none, none, none, none, none, none, none, none]) = _
  rw [law_is, evB_step (s' := [some (.dat (.list (ns.map PyData.int))), some (.own (.list (ds.map PyData.int))), none, none, none, none, none, none, none, none, none, none, none, none])]
  · rw [evB_step (s' := [some (.dat (.list (ns.map PyData.int))), some (.own (.list (ds.map PyData.int))), none, none, none, none, none, none, none, none, none, none, none, none])]
    · rw [evB_step (evS_for (ds := five.map PyData.str) rfl e2), evB_ret (v := .dat (.bool true))]
      · rfl
      · kernel_rfl
    · kernel_rfl
  · simp [evS, evE, evF, getS, ec, asgS, EV.slot]
end Z

namespace Z
open PySem PySem.Spec PyProof.Rows L2 DV
theorem all_mk {P : Program} {w : World} {K : PySem.W.Frag} {h : Heap} {mg : Str → Option Value} {fa : Addr} (X : K.In h) (G : h.Ns mainGlobals mg) (hfa : mg "law" = some (.ref fa))
    {f0 : Addr} {oc0 kV0 dc0 pm0 cd0 ct0 : Value} {od0 an0 : Option Addr} {sl0 : Array (Option Value)} {f1 : Addr} {oc1 kV1 dc1 pm1 cd1 ct1 : Value} {od1 an1 : Option Addr} {sl1 : Array (Option Value)} {f2 : Addr} {oc2 kV2 dc2 pm2 cd2 ct2 : Value} {od2 an2 : Option Addr} {sl2 : Array (Option Value)} {f3 : Addr} {oc3 kV3 dc3 pm3 cd3 ct3 : Value} {od3 an3 : Option Addr} {sl3 : Array (Option Value)} {f4 : Addr} {oc4 kV4 dc4 pm4 cd4 ct4 : Value} {od4 an4 : Option Addr} {sl4 : Array (Option Value)} {f5 : Addr} {oc5 kV5 dc5 pm5 cd5 ct5 : Value} {od5 an5 : Option Addr} {sl5 : Array (Option Value)} {f6 : Addr} {oc6 kV6 dc6 pm6 cd6 ct6 : Value} {od6 an6 : Option Addr} {sl6 : Array (Option Value)} {f7 : Addr} {oc7 kV7 dc7 pm7 cd7 ct7 : Value} {od7 an7 : Option Addr} {sl7 : Array (Option Value)} {f8 : Addr} {oc8 kV8 dc8 pm8 cd8 ct8 : Value} {od8 an8 : Option Addr} {sl8 : Array (Option Value)} {f9 : Addr} {oc9 kV9 dc9 pm9 cd9 ct9 : Value} {od9 an9 : Option Addr} {sl9 : Array (Option Value)} {f10 : Addr} {oc10 kV10 dc10 pm10 cd10 ct10 : Value} {od10 an10 : Option Addr} {sl10 : Array (Option Value)} {f11 : Addr} {oc11 kV11 dc11 pm11 cd11 ct11 : Value} {od11 an11 : Option Addr} {sl11 : Array (Option Value)} {f12 : Addr} {oc12 kV12 dc12 pm12 cd12 ct12 : Value} {od12 an12 : Option Addr} {sl12 : Array (Option Value)} {u0 : Value} {u1 : Value} {u2 : Value} {u3 : Value} {m0 : Addr} {es0 : Array DictEntry} {n0 : Nat} {e0 : Addr} {e1 : Addr} {e2 : Addr}
    (a0 : PySem.W.nsIn K mainGlobals "is_sort" = some (some (.ref f0)))
    (l0 : K.lookup f0 = some ⟨oc0, od0, .func (PySem.W.fnOf "is_sort" "is_sort" (defArgs (topS 12)) (defBody (topS 12)) (defScope (topS 12)) .none kV0 dc0 pm0 an0 cd0 ct0), sl0⟩)
    (c0 : PySem.W.codeIn K cd0 "is_sort" = true)
    (k0 : PySem.W.keepIn K (.ref f0) = true)
    (a1 : PySem.W.nsIn K mainGlobals "check_sorts" = some (some (.ref f1)))
    (l1 : K.lookup f1 = some ⟨oc1, od1, .func (PySem.W.fnOf "check_sorts" "check_sorts" (defArgs (topS 13)) (defBody (topS 13)) (defScope (topS 13)) .none kV1 dc1 pm1 an1 cd1 ct1), sl1⟩)
    (c1 : PySem.W.codeIn K cd1 "check_sorts" = true)
    (k1 : PySem.W.keepIn K (.ref f1) = true)
    (a2 : PySem.W.nsIn K mainGlobals "lies_below" = some (some (.ref f2)))
    (l2 : K.lookup f2 = some ⟨oc2, od2, .func (PySem.W.fnOf "lies_below" "lies_below" (defArgs (topS 14)) (defBody (topS 14)) (defScope (topS 14)) .none kV2 dc2 pm2 an2 cd2 ct2), sl2⟩)
    (c2 : PySem.W.codeIn K cd2 "lies_below" = true)
    (k2 : PySem.W.keepIn K (.ref f2) = true)
    (a3 : PySem.W.nsIn K mainGlobals "is_below" = some (some (.ref f3)))
    (l3 : K.lookup f3 = some ⟨oc3, od3, .func (PySem.W.fnOf "is_below" "is_below" (defArgs (topS 15)) (defBody (topS 15)) (defScope (topS 15)) .none kV3 dc3 pm3 an3 cd3 ct3), sl3⟩)
    (c3 : PySem.W.codeIn K cd3 "is_below" = true)
    (k3 : PySem.W.keepIn K (.ref f3) = true)
    (a4 : PySem.W.nsIn K mainGlobals "joined_sort" = some (some (.ref f4)))
    (l4 : K.lookup f4 = some ⟨oc4, od4, .func (PySem.W.fnOf "joined_sort" "joined_sort" (defArgs (topS 16)) (defBody (topS 16)) (defScope (topS 16)) .none kV4 dc4 pm4 an4 cd4 ct4), sl4⟩)
    (c4 : PySem.W.codeIn K cd4 "joined_sort" = true)
    (k4 : PySem.W.keepIn K (.ref f4) = true)
    (a5 : PySem.W.nsIn K mainGlobals "least_above" = some (some (.ref f5)))
    (l5 : K.lookup f5 = some ⟨oc5, od5, .func (PySem.W.fnOf "least_above" "least_above" (defArgs (topS 17)) (defBody (topS 17)) (defScope (topS 17)) .none kV5 dc5 pm5 an5 cd5 ct5), sl5⟩)
    (c5 : PySem.W.codeIn K cd5 "least_above" = true)
    (k5 : PySem.W.keepIn K (.ref f5) = true)
    (a6 : PySem.W.nsIn K mainGlobals "greatest_below" = some (some (.ref f6)))
    (l6 : K.lookup f6 = some ⟨oc6, od6, .func (PySem.W.fnOf "greatest_below" "greatest_below" (defArgs (topS 18)) (defBody (topS 18)) (defScope (topS 18)) .none kV6 dc6 pm6 an6 cd6 ct6), sl6⟩)
    (c6 : PySem.W.codeIn K cd6 "greatest_below" = true)
    (k6 : PySem.W.keepIn K (.ref f6) = true)
    (a7 : PySem.W.nsIn K mainGlobals "own_sort" = some (some (.ref f7)))
    (l7 : K.lookup f7 = some ⟨oc7, od7, .func (PySem.W.fnOf "own_sort" "own_sort" (defArgs (topS 19)) (defBody (topS 19)) (defScope (topS 19)) .none kV7 dc7 pm7 an7 cd7 ct7), sl7⟩)
    (c7 : PySem.W.codeIn K cd7 "own_sort" = true)
    (k7 : PySem.W.keepIn K (.ref f7) = true)
    (a8 : PySem.W.nsIn K mainGlobals "has_value" = some (some (.ref f8)))
    (l8 : K.lookup f8 = some ⟨oc8, od8, .func (PySem.W.fnOf "has_value" "has_value" (defArgs (topS 20)) (defBody (topS 20)) (defScope (topS 20)) .none kV8 dc8 pm8 an8 cd8 ct8), sl8⟩)
    (c8 : PySem.W.codeIn K cd8 "has_value" = true)
    (k8 : PySem.W.keepIn K (.ref f8) = true)
    (a9 : PySem.W.nsIn K mainGlobals "_law_draws" = some (some (.ref f9)))
    (l9 : K.lookup f9 = some ⟨oc9, od9, .func (PySem.W.fnOf "_law_draws" "_law_draws" (defArgs (topS 22)) (defBody (topS 22)) (defScope (topS 22)) .none kV9 dc9 pm9 an9 cd9 ct9), sl9⟩)
    (c9 : PySem.W.codeIn K cd9 "_law_draws" = true)
    (k9 : PySem.W.keepIn K (.ref f9) = true)
    (a10 : PySem.W.nsIn K mainGlobals "_law_numbers" = some (some (.ref f10)))
    (l10 : K.lookup f10 = some ⟨oc10, od10, .func (PySem.W.fnOf "_law_numbers" "_law_numbers" (defArgs (topS 23)) (defBody (topS 23)) (defScope (topS 23)) .none kV10 dc10 pm10 an10 cd10 ct10), sl10⟩)
    (c10 : PySem.W.codeIn K cd10 "_law_numbers" = true)
    (k10 : PySem.W.keepIn K (.ref f10) = true)
    (a11 : PySem.W.nsIn K mainGlobals "_law_word" = some (some (.ref f11)))
    (l11 : K.lookup f11 = some ⟨oc11, od11, .func (PySem.W.fnOf "_law_word" "_law_word" (defArgs (topS 24)) (defBody (topS 24)) (defScope (topS 24)) .none kV11 dc11 pm11 an11 cd11 ct11), sl11⟩)
    (c11 : PySem.W.codeIn K cd11 "_law_word" = true)
    (k11 : PySem.W.keepIn K (.ref f11) = true)
    (a12 : PySem.W.nsIn K mainGlobals "law" = some (some (.ref f12)))
    (l12 : K.lookup f12 = some ⟨oc12, od12, .func (PySem.W.fnOf "law" "law" (defArgs (topS 25)) (defBody (topS 25)) (defScope (topS 25)) .none kV12 dc12 pm12 an12 cd12 ct12), sl12⟩)
    (c12 : PySem.W.codeIn K cd12 "law" = true)
    (k12 : PySem.W.keepIn K (.ref f12) = true)
    (gg0 : PySem.W.nsIn K mainGlobals "SORTS" = some (some u0))
    (gr0 : readIs K u0 (.tuple [.str "any", .str "even", .str "none", .str "odd", .str "zero"]) = true)
    (gg1 : PySem.W.nsIn K mainGlobals "ZERO" = some (some u1))
    (gr1 : readIs K u1 (.str "zero") = true)
    (gg2 : PySem.W.nsIn K mainGlobals "EVEN" = some (some u2))
    (gr2 : readIs K u2 (.str "even") = true)
    (gg3 : PySem.W.nsIn K mainGlobals "ODD" = some (some u3))
    (gr3 : readIs K u3 (.str "odd") = true)
    (ma0 : PySem.W.nsIn K mainGlobals "ABOVE" = some (some (.ref m0)))
    (ml0 : K.lookup m0 = some ⟨.type "dict", none, .dict es0 n0, #[]⟩)
    (mk0 : PySem.W.KeysLit w.params es0.toList)
    (mr0 : mapIsB K m0 mp_ABOVE = true)
    (z0 : PySem.W.nsIn K mainGlobals "len" = some none)
    (z1 : PySem.W.nsIn K mainGlobals "abs" = some none)
    (z2 : PySem.W.nsIn K mainGlobals "all" = some none)
    (z3 : PySem.W.nsIn K mainGlobals "any" = some none)
    (z4 : PySem.W.nsIn K mainGlobals "list" = some none)
    (z5 : PySem.W.nsIn K mainGlobals "tuple" = some none)
    (z6 : PySem.W.nsIn K mainGlobals "int" = some none)
    (z7 : PySem.W.nsIn K mainGlobals "sum" = some none)
    (z8 : PySem.W.nsIn K mainGlobals "bool" = some none)
    (z9 : PySem.W.nsIn K mainGlobals "str" = some none)
    (z10 : PySem.W.nsIn K mainGlobals "isinstance" = some none)
    (z11 : PySem.W.nsIn K mainGlobals "range" = some none)
    (ea0 : PySem.W.nsIn K mainGlobals "ModuleError" = some (some (.ref e0)))
    (ek0 : PySem.W.keepIn K (.ref e0) = true)
    (ex0 : PySem.W.excIn K e0 [.type "ValueError", .type "Exception", .type "BaseException", .type "object"] "ValueError.__new__" = true)
    (eb0 : PySem.W.subIn K (.ref e0) (.type "BaseException") = some true)
    (et0 : PySem.W.typeIn K (.ref e0) = some (.type "type"))
    (ei0 : PySem.W.isClsIn K e0 = true)
    (ea1 : PySem.W.nsIn K mainGlobals "BadSort" = some (some (.ref e1)))
    (ek1 : PySem.W.keepIn K (.ref e1) = true)
    (ex1 : PySem.W.excIn K e1 [.type "ValueError", .type "Exception", .type "BaseException", .type "object"] "ValueError.__new__" = true)
    (eb1 : PySem.W.subIn K (.ref e1) (.type "BaseException") = some true)
    (et1 : PySem.W.typeIn K (.ref e1) = some (.type "type"))
    (ei1 : PySem.W.isClsIn K e1 = true)
    (ea2 : PySem.W.nsIn K mainGlobals "BadValue" = some (some (.ref e2)))
    (ek2 : PySem.W.keepIn K (.ref e2) = true)
    (ex2 : PySem.W.excIn K e2 [.type "ValueError", .type "Exception", .type "BaseException", .type "object"] "ValueError.__new__" = true)
    (eb2 : PySem.W.subIn K (.ref e2) (.type "BaseException") = some true)
    (et2 : PySem.W.typeIn K (.ref e2) = some (.type "type"))
    (ei2 : PySem.W.isClsIn K e2 = true)
    (s0_0 : PySem.W.subIn K (.ref e0) (.ref e0) = some true)
    (s0_1 : PySem.W.subIn K (.ref e0) (.ref e1) = some false)
    (s0_2 : PySem.W.subIn K (.ref e0) (.ref e2) = some false)
    (s1_0 : PySem.W.subIn K (.ref e1) (.ref e0) = some true)
    (s1_1 : PySem.W.subIn K (.ref e1) (.ref e1) = some true)
    (s1_2 : PySem.W.subIn K (.ref e1) (.ref e2) = some false)
    (s2_0 : PySem.W.subIn K (.ref e2) (.ref e0) = some true)
    (s2_1 : PySem.W.subIn K (.ref e2) (.ref e1) = some false)
    (s2_2 : PySem.W.subIn K (.ref e2) (.ref e2) = some true)
    : ∃ fd : FuncData, (∀ (s : Shared) (u : Value), BindsTo s fd ⟨[u], []⟩ [("script", u)]) ∧ ∀ base : Heap, K.In base → base.Ns mainGlobals mg → FnOk P w K mg base (L2.CX P w) 12 fa fd ["script"] (spT K (R 12 12)) := by
  have B : Base tab w K mg (fun i => ([e0, e1, e2] : List Addr).getD i 0) := by
    refine ⟨fun x d q => ?_, fun x kvs q => ?_, fun x q => ?_, fun x i q => ?_⟩
    · have q := mem_of_lk q
      simp only [tab, List.mem_cons, List.not_mem_nil, or_false, Prod.mk.injEq] at q
      rcases q with ⟨rfl, rfl⟩ | ⟨rfl, rfl⟩ | ⟨rfl, rfl⟩ | ⟨rfl, rfl⟩
      · exact glob_mk X G gg0 (readIs_ok gr0)
      · exact glob_mk X G gg1 (readIs_ok gr1)
      · exact glob_mk X G gg2 (readIs_ok gr2)
      · exact glob_mk X G gg3 (readIs_ok gr3)
    · have q := mem_of_lk q
      simp only [tab, List.mem_cons, List.not_mem_nil, or_false, Prod.mk.injEq] at q
      rcases q with ⟨rfl, rfl⟩
      · exact ⟨m0, PySem.W.mg_of X G ma0, mapIs_ok ml0 mk0 mr0⟩
    · simp only [blts, List.mem_cons, List.not_mem_nil, or_false] at q
      rcases q with rfl | rfl | rfl | rfl | rfl | rfl | rfl | rfl | rfl | rfl | rfl | rfl
      · exact PySem.W.mg_none_of X G z0
      · exact PySem.W.mg_none_of X G z1
      · exact PySem.W.mg_none_of X G z2
      · exact PySem.W.mg_none_of X G z3
      · exact PySem.W.mg_none_of X G z4
      · exact PySem.W.mg_none_of X G z5
      · exact PySem.W.mg_none_of X G z6
      · exact PySem.W.mg_none_of X G z7
      · exact PySem.W.mg_none_of X G z8
      · exact PySem.W.mg_none_of X G z9
      · exact PySem.W.mg_none_of X G z10
      · exact PySem.W.mg_none_of X G z11
    · have q := mem_of_lk q
      simp only [tab, List.mem_cons, List.not_mem_nil, or_false, Prod.mk.injEq] at q
      rcases q with ⟨rfl, rfl⟩ | ⟨rfl, rfl⟩ | ⟨rfl, rfl⟩
      · exact ⟨PySem.W.mg_of X G ea0, ek0, ex0, eb0, et0⟩
      · exact ⟨PySem.W.mg_of X G ea1, ek1, ex1, eb1, et1⟩
      · exact ⟨PySem.W.mg_of X G ea2, ek2, ex2, eb2, et2⟩
  refine law_end (T := tab) (dfs := dfs) (sub := sub) (ca := fun i => ([e0, e1, e2] : List Addr).getD i 0) (d := d12) (iL := 12) ?_ B ok_all fns_ok ?_ rfl hfa rfl rfl
  · intro i j b q
    have q := mem_of_lk q
    simp only [subT, List.mem_cons, List.not_mem_nil, or_false, Prod.mk.injEq] at q
    rcases q with ⟨⟨rfl, rfl⟩, rfl⟩ | ⟨⟨rfl, rfl⟩, rfl⟩ | ⟨⟨rfl, rfl⟩, rfl⟩ | ⟨⟨rfl, rfl⟩, rfl⟩ | ⟨⟨rfl, rfl⟩, rfl⟩ | ⟨⟨rfl, rfl⟩, rfl⟩ | ⟨⟨rfl, rfl⟩, rfl⟩ | ⟨⟨rfl, rfl⟩, rfl⟩ | ⟨⟨rfl, rfl⟩, rfl⟩
    · exact exm_mk eb0 ei0 et0 s0_0
    · exact exm_mk eb1 ei1 et1 s0_1
    · exact exm_mk eb2 ei2 et2 s0_2
    · exact exm_mk eb0 ei0 et0 s1_0
    · exact exm_mk eb1 ei1 et1 s1_1
    · exact exm_mk eb2 ei2 et2 s1_2
    · exact exm_mk eb0 ei0 et0 s2_0
    · exact exm_mk eb1 ei1 et1 s2_1
    · exact exm_mk eb2 ei2 et2 s2_2
  · intro i d q
    have q := List.mem_of_getElem? q
    simp only [dfs, List.mem_cons, List.not_mem_nil, or_false] at q
    rcases q with rfl | rfl | rfl | rfl | rfl | rfl | rfl | rfl | rfl | rfl | rfl | rfl | rfl
    · exact def_mk X G d0 a0 l0 c0 k0 fun us hl => match us, hl with | [_], _ => rfl
    · exact def_mk X G d1 a1 l1 c1 k1 fun us hl => match us, hl with | [_], _ => rfl
    · exact def_mk X G d2 a2 l2 c2 k2 fun us hl => match us, hl with | [_, _], _ => rfl
    · exact def_mk X G d3 a3 l3 c3 k3 fun us hl => match us, hl with | [_, _], _ => rfl
    · exact def_mk X G d4 a4 l4 c4 k4 fun us hl => match us, hl with | [_, _], _ => rfl
    · exact def_mk X G d5 a5 l5 c5 k5 fun us hl => match us, hl with | [_, _], _ => rfl
    · exact def_mk X G d6 a6 l6 c6 k6 fun us hl => match us, hl with | [_, _], _ => rfl
    · exact def_mk X G d7 a7 l7 c7 k7 fun us hl => match us, hl with | [_], _ => rfl
    · exact def_mk X G d8 a8 l8 c8 k8 fun us hl => match us, hl with | [_, _], _ => rfl
    · exact def_mk X G d9 a9 l9 c9 k9 fun us hl => match us, hl with | [_, _], _ => rfl
    · exact def_mk X G d10 a10 l10 c10 k10 fun us hl => match us, hl with | [_], _ => rfl
    · exact def_mk X G d11 a11 l11 c11 k11 fun us hl => match us, hl with | [_, _, _], _ => rfl
    · exact def_mk X G d12 a12 l12 c12 k12 fun us hl => match us, hl with | [_], _ => rfl
end Z
open PySem PySem.W PyProof.Rows
set_option maxHeartbeats 0 in
theorem PySem.Challenge.cw_modulewright_k20_whole_sorts_holds : PySem.Challenge.rw_modulewright_k20_whole_sorts.Holds := by
  w_on; o_law; k_head; (case hw => w_witness2)
  k_fill
  refine L2.walk_of (l := PySem.Challenge.rw_modulewright_k20_whole_sorts) (n := 63) (k := 12) (x := "script") (CX := fun w => L2.CX PySem.Challenge.rw_modulewright_k20_whole_sorts.prog w) (sp := fun w => DV.spT _ (Z.R 12 12)) rfl (by decide) rfl ⟨rfl, by decide, by decide⟩ (fun w h Y => PySem.W.kIn_of Y) ?F (fun _ _ a ns hl _ hS => DV.sp_true hS (Z.law_true ns hl)) (fun _ _ _ _ _ h => by obtain ⟨_, _, _, _, _, _, _, _, _, _, _, _, h⟩ := h; exact h)
  case F =>
    intro w mg fa h KX G hmg
    refine' Z.all_mk KX G hmg ?a0 ?l0 ?c0 ?k0 ?a1 ?l1 ?c1 ?k1 ?a2 ?l2 ?c2 ?k2 ?a3 ?l3 ?c3 ?k3 ?a4 ?l4 ?c4 ?k4 ?a5 ?l5 ?c5 ?k5 ?a6 ?l6 ?c6 ?k6 ?a7 ?l7 ?c7 ?k7 ?a8 ?l8 ?c8 ?k8 ?a9 ?l9 ?c9 ?k9 ?a10 ?l10 ?c10 ?k10 ?a11 ?l11 ?c11 ?k11 ?a12 ?l12 ?c12 ?k12 ?gg0 ?gr0 ?gg1 ?gr1 ?gg2 ?gr2 ?gg3 ?gr3 ?ma0 ?ml0 ?mk0 ?mr0 ?z0 ?z1 ?z2 ?z3 ?z4 ?z5 ?z6 ?z7 ?z8 ?z9 ?z10 ?z11 ?ea0 ?ek0 ?ex0 ?eb0 ?et0 ?ei0 ?ea1 ?ek1 ?ex1 ?eb1 ?et1 ?ei1 ?ea2 ?ek2 ?ex2 ?eb2 ?et2 ?ei2 ?s0_0 ?s0_1 ?s0_2 ?s1_0 ?s1_1 ?s1_2 ?s2_0 ?s2_1 ?s2_2
    (case a0 => k_is)
    (case l0 => k_is)
    (case c0 => k_is)
    (case k0 => k_is)
    (case a1 => k_is)
    (case l1 => k_is)
    (case c1 => k_is)
    (case k1 => k_is)
    (case a2 => k_is)
    (case l2 => k_is)
    (case c2 => k_is)
    (case k2 => k_is)
    (case a3 => k_is)
    (case l3 => k_is)
    (case c3 => k_is)
    (case k3 => k_is)
    (case a4 => k_is)
    (case l4 => k_is)
    (case c4 => k_is)
    (case k4 => k_is)
    (case a5 => k_is)
    (case l5 => k_is)
    (case c5 => k_is)
    (case k5 => k_is)
    (case a6 => k_is)
    (case l6 => k_is)
    (case c6 => k_is)
    (case k6 => k_is)
    (case a7 => k_is)
    (case l7 => k_is)
    (case c7 => k_is)
    (case k7 => k_is)
    (case a8 => k_is)
    (case l8 => k_is)
    (case c8 => k_is)
    (case k8 => k_is)
    (case a9 => k_is)
    (case l9 => k_is)
    (case c9 => k_is)
    (case k9 => k_is)
    (case a10 => k_is)
    (case l10 => k_is)
    (case c10 => k_is)
    (case k10 => k_is)
    (case a11 => k_is)
    (case l11 => k_is)
    (case c11 => k_is)
    (case k11 => k_is)
    (case a12 => k_is)
    (case l12 => k_is)
    (case c12 => k_is)
    (case k12 => k_is)
    (case gg0 => k_is)
    (case gr0 => rfl)
    (case gg1 => k_is)
    (case gr1 => rfl)
    (case gg2 => k_is)
    (case gr2 => rfl)
    (case gg3 => k_is)
    (case gr3 => rfl)
    (case ma0 => k_is)
    (case ml0 => k_is)
    (case mk0 => k_keys)
    (case mr0 => rfl)
    (case z0 => k_is)
    (case z1 => k_is)
    (case z2 => k_is)
    (case z3 => k_is)
    (case z4 => k_is)
    (case z5 => k_is)
    (case z6 => k_is)
    (case z7 => k_is)
    (case z8 => k_is)
    (case z9 => k_is)
    (case z10 => k_is)
    (case z11 => k_is)
    (case ea0 => k_is)
    (case ek0 => k_is)
    (case ex0 => k_exc)
    (case eb0 => k_is)
    (case et0 => k_is)
    (case ei0 => k_is)
    (case ea1 => k_is)
    (case ek1 => k_is)
    (case ex1 => k_exc)
    (case eb1 => k_is)
    (case et1 => k_is)
    (case ei1 => k_is)
    (case ea2 => k_is)
    (case ek2 => k_is)
    (case ex2 => k_exc)
    (case eb2 => k_is)
    (case et2 => k_is)
    (case ei2 => k_is)
    (case s0_0 => first | rfl | k_is)
    (case s0_1 => first | rfl | k_is)
    (case s0_2 => first | rfl | k_is)
    (case s1_0 => first | rfl | k_is)
    (case s1_1 => first | rfl | k_is)
    (case s1_2 => first | rfl | k_is)
    (case s2_0 => first | rfl | k_is)
    (case s2_1 => first | rfl | k_is)
    (case s2_2 => first | rfl | k_is)

