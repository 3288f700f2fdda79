import PyProof.Rows.All
import Wide.All
import OpenK.AllK
import Wide.FinOn
import KE.KStateDown
import HandS.ForMost
import HandS.ForExc
import HandS.Lambda
import HandS.HeadHook4
import HandS.CallSlots
import HandS.Zip
import KE.GoesEnum
import HandS.Wide
import HandS.TupAny
import HandS.TupMul
import HandS.TupLe
import HandS.IsInst
import HandS.SortInts
import HandS.SortRule
import HandS.Sort
import HandS.Conv
import HandS.Deep
import PyProof.P3In
import HandS.Style
import HandS.Defaults
import HandS.HeadHook2
import HandS.HeadEnd
import HandS.EndBits
import HandS.ExcInit
import HandS.TryMany
import KE.KExcInit
import PyProof.ExcBaseAll.OverflowError
import PyProof.ExcBaseAll.RuntimeError
import HandS.HeadWalk
import HandS.ExcValue
import HandS.ExcField
import HandS.SortOrd
import KE.KSortTup
import KE.KSortTupAny
import KE.KDictPairs
import KE.DataMinMax
import KE.LtData
import HandS.Head0
import HandS.Head1
import HandS.Head2
import HandS.HeadHook1
import Lean
import PySem.Challenge.RW_fewqueues_k03_whole_turns
set_option Elab.async false
set_option linter.all false
set_option maxRecDepth 100000
set_option maxHeartbeats 4000000
/-! Z1: a small pure evaluator's data: values, store, monad; how they lie in the abstract heap. -/
namespace L2.Z
open PySem PySem.Spec PyProof.Rows

inductive D where
  | non | bl (b : Bool) | int (i : Int) | str (x : Str) | tup (xs : List D) | loc (n : Nat)
  /-- a caught exception of an own class: its fields, their values -/
  | xc (c : Str) (ns : List Str) (ds : List D)
  /-- a lambda that was handed to this def: its object, its code object and that one's name; the store's places and the heap as they were -/
  | lam (f c : Addr) (q : Str) (m : List Addr) (H : Hp)
  /-- the script: a list of ints that is read alone -/
  | scr (ns : List Int)

inductive O where
  | lst (xs : List D) | fz (xs : List D) | dK (kvs : List (Key × D)) | dT (kvs : List (List Key × D)) | fd (kvs : List (Key × D))

/-- newest first -/
structure Sto where
  os : List O
  n : Nat

def Sto.get (S : Sto) (i : Nat) : Option O := match Nat.blt i S.n with
  | true => S.os[S.n - 1 - i]?
  | false => none
def Sto.push (S : Sto) (o : O) : Sto := ⟨o :: S.os, S.n + 1⟩
def Sto.set (S : Sto) (i : Nat) (o : O) : Sto := ⟨S.os.set (S.n - 1 - i) o, S.n⟩

theorem blt_t {i n : Nat} (h : i < n) : Nat.blt i n = true := Nat.ble_eq_true_of_le h
theorem blt_f {i n : Nat} (h : ¬ i < n) : Nat.blt i n = false := by
  cases e : Nat.blt i n with
  | false => rfl
  | true => exact absurd (Nat.le_of_ble_eq_true e) h
theorem Sto.get_lt {S : Sto} {i : Nat} (h : i < S.n) : S.get i = S.os[S.n - 1 - i]? := by unfold Sto.get; rw [blt_t h]
theorem Sto.get_ge {S : Sto} {i : Nat} (h : ¬ i < S.n) : S.get i = none := by unfold Sto.get; rw [blt_f h]
theorem Sto.lt_of {S : Sto} {i : Nat} {o : O} (h : S.get i = some o) : i < S.n := by
  by_cases q : i < S.n
  · exact q
  · rw [Sto.get_ge q] at h; cases h
@[simp] theorem Sto.push_n (S : Sto) (o : O) : (S.push o).n = S.n + 1 := rfl
@[simp] theorem Sto.set_n (S : Sto) (i : Nat) (o : O) : (S.set i o).n = S.n := rfl
theorem Sto.get_push (S : Sto) (o : O) : (S.push o).get S.n = some o := by
  rw [Sto.get_lt (by show S.n < S.n + 1; omega)]
  show (o :: S.os)[S.n + 1 - 1 - S.n]? = some o
  rw [show S.n + 1 - 1 - S.n = 0 by omega]; rfl
theorem Sto.get_push_lt {S : Sto} {o : O} {i : Nat} (h : i < S.n) : (S.push o).get i = S.get i := by
  rw [Sto.get_lt (by show i < S.n + 1; omega), Sto.get_lt h]
  show (o :: S.os)[S.n + 1 - 1 - i]? = _
  rw [show S.n + 1 - 1 - i = (S.n - 1 - i) + 1 by omega]; rfl
theorem Sto.get_push_gt {S : Sto} {o : O} {i : Nat} (h : S.n < i) : (S.push o).get i = none := Sto.get_ge (by show ¬ i < S.n + 1; omega)
theorem Sto.get_set {S : Sto} {o o' : O} {i : Nat} (h : S.get i = some o') : (S.set i o).get i = some o := by
  have hl := Sto.lt_of h
  rw [Sto.get_lt hl] at h
  rw [Sto.get_lt (S := S.set i o) hl]
  show (S.os.set (S.n - 1 - i) o)[S.n - 1 - i]? = some o
  have : S.n - 1 - i < S.os.length := by
    by_cases q : S.n - 1 - i < S.os.length
    · exact q
    · rw [List.getElem?_eq_none (by omega)] at h; cases h
  rw [List.getElem?_set_self this]
theorem Sto.get_set_ne {S : Sto} {o : O} {i j : Nat} (h : j ≠ i) (hi : i < S.n) : (S.set i o).get j = S.get j := by
  by_cases q : j < S.n
  · rw [Sto.get_lt q, Sto.get_lt (S := S.set i o) q]
    show (S.os.set (S.n - 1 - i) o)[S.n - 1 - j]? = _
    rw [List.getElem?_set_ne (by omega)]
  · rw [Sto.get_ge q, Sto.get_ge (S := S.set i o) q]

structure Xc where
  cls : Str
  ns : List Str
  ds : List D

inductive Res (α : Type) where
  | ok (a : α) (S : Sto) | exc (x : Xc) (S : Sto) | bad

abbrev M (α : Type) := Sto → Res α
def ret {α : Type} (a : α) : M α := fun S => .ok a S
def bad {α : Type} : M α := fun _ => .bad
def bnd {α β : Type} (m : M α) (k : α → M β) : M β := fun S => match m S with
  | .ok a S' => k a S'
  | .exc x S' => .exc x S'
  | .bad => .bad
def raiz {α : Type} (x : Xc) : M α := fun S => .exc x S
abbrev Env := List (Option D)

/-! ### how data lie in the abstract heap -/
/-- a list of ints that nobody writes: locked, one of the module's own, one that is none of the store's -/
def ScrAt (K : PySem.W.Frag) (m : List Addr) (H : Hp) (a : Addr) (ns : List Int) : Prop := (∃ o, H a = some (.frz o (.lst (ns.map V.int)))) ∨ (H a = some (.lst (ns.map V.int)) ∧ a ∉ m) ∨
  ∃ (o : Obj) (its : Array Value) (n : Nat), K.lookup a = some o ∧ o.cls = .type "list" ∧ o.dict = none ∧ o.data = .seq its n ∧ its.size ≤ sizeLine ∧ Vals (ns.map V.int) its.toList
theorem ScrAt.sq {K : PySem.W.Frag} {m : List Addr} {H : Hp} {a : Addr} {ns : List Int} (h : ScrAt K m H a ns) : SqL K H a (ns.map V.int) := by
  rcases h with ⟨o, h⟩ | ⟨h, _⟩ | h
  · exact .inl (.inr ⟨o, h⟩)
  · exact .inl (.inl h)
  · exact .inr h
theorem ScrAt.of {K : PySem.W.Frag} {H : Hp} {a : Addr} {ns : List Int} (h : SqL K H a (ns.map V.int)) : ScrAt K [] H a ns := by
  rcases h with (h | ⟨o, h⟩) | h
  · exact .inr (.inl ⟨h, by simp⟩)
  · exact .inl ⟨o, h⟩
  · exact .inr (.inr h)
structure HLe (H H' : Hp) : Prop where
  tups : ∀ b xs, H b = some (.tup xs) → H' b = some (.tup xs)
  frzs : ∀ b o u, H b = some (.frz o u) → H' b = some (.frz o u)
  exts : ∀ b φ, H b = some (.ext φ) → H' b = some (.ext φ)
  xds : ∀ b fs, H b = some (.xd fs) → H' b = some (.xd fs)
theorem HLe.refl (H : Hp) : HLe H H := ⟨fun _ _ h => h, fun _ _ _ h => h, fun _ _ h => h, fun _ _ h => h⟩
theorem HLe.trans {H H1 H2 : Hp} (a : HLe H H1) (b : HLe H1 H2) : HLe H H2 := ⟨fun c xs h => b.tups c xs (a.tups c xs h), fun c o u h => b.frzs c o u (a.frzs c o u h), fun c o h => b.exts c o (a.exts c o h), fun c o h => b.xds c o (a.xds c o h)⟩
theorem HLe.new {H : Hp} {p : Addr} {o : HO} (h : H p = none) : HLe H (upd H p o) := ⟨fun b xs e => by rw [upd_ne (ne_of_none e h)]; exact e, fun b o u e => by rw [upd_ne (ne_of_none e h)]; exact e, fun b xs e => by rw [upd_ne (ne_of_none e h)]; exact e, fun b xs e => by rw [upd_ne (ne_of_none e h)]; exact e⟩
theorem HLe.sqT {K : PySem.W.Frag} {H H' : Hp} {a : Addr} {xs : List V} (e : HLe H H') (h : SqT K H a xs) : SqT K H' a xs := by
  rcases h with (h | ⟨o, h⟩) | h
  · exact .inl (.inl (e.tups _ _ h))
  · exact .inl (.inr ⟨o, e.frzs _ _ _ h⟩)
  · exact .inr h

structure Ext (m : List Addr) (H : Hp) (m' : List Addr) (H' : Hp) : Prop where
  pre : m <+: m'
  le : HLe H H'
  keep : ∀ b xs, H b = some (.lst xs) → b ∉ m → H' b = some (.lst xs) ∧ b ∉ m'
theorem Ext.refl (m : List Addr) (H : Hp) : Ext m H m H := ⟨List.prefix_refl _, .refl _, fun _ _ h n => ⟨h, n⟩⟩
theorem Ext.trans {m m1 m2 : List Addr} {H H1 H2 : Hp} (a : Ext m H m1 H1) (b : Ext m1 H1 m2 H2) : Ext m H m2 H2 := ⟨a.pre.trans b.pre, a.le.trans b.le, fun c xs h n => b.keep c xs (a.keep c xs h n).1 (a.keep c xs h n).2⟩
theorem Ext.new {m : List Addr} {H : Hp} {p : Addr} {o : HO} (h : H p = none) : Ext m H m (upd H p o) := ⟨List.prefix_refl _, .new h, fun b xs e n => ⟨by rw [upd_ne (ne_of_none e h)]; exact e, n⟩⟩

/-- an exception of the class at C that was caught, its dict at dx -/
def exv (a C dx : Addr) : HO := .ext fun h => ∃ (oe : Obj) (vs : Array Value), h.get? a = some oe ∧ Zc (.ref C) (some dx) oe ∧ oe.data = .fields vs
mutual
def RD (K : PySem.W.Frag) (m : List Addr) (H : Hp) : D → V → Prop
  | .non, v => v = .non
  | .bl b, v => v = .bl b
  | .int i, v => v = .int i
  | .str x, v => v = .str x
  | .tup ds, v => ∃ a vs, v = .ref a ∧ SqT K H a vs ∧ RDs K m H ds vs
  | .loc n, v => ∃ a, v = .ref a ∧ m[n]? = some a
  | .xc c ns ds, v => ∃ a dx vs, v = .ref a ∧ H a = some (exv a (He.ga K c) dx) ∧ H dx = some (.xd (ns.zip vs)) ∧ RDs K m H ds vs
  | .lam f c q m0 H0, v => v = .ref f ∧ H c = some (LamX.CodeO c q) ∧ Ext m0 H0 m H
  | .scr ns, v => ∃ a, v = .ref a ∧ ScrAt K m H a ns
def RDs (K : PySem.W.Frag) (m : List Addr) (H : Hp) : List D → List V → Prop
  | [], vs => vs = []
  | d :: ds, vs => ∃ v r, vs = v :: r ∧ RD K m H d v ∧ RDs K m H ds r
end

theorem pre_get {m m' : List Addr} {n : Nat} {a : Addr} (h : m <+: m') (e : m[n]? = some a) : m'[n]? = some a := by
  obtain ⟨t, rfl⟩ := h
  rw [List.getElem?_append_left (by
    by_cases q : n < m.length
    · exact q
    · rw [List.getElem?_eq_none (by omega)] at e; cases e)]
  exact e

mutual
theorem RD.mono {K : PySem.W.Frag} {m m' : List Addr} {H H' : Hp} (x : Ext m H m' H') : ∀ (d : D) (v : V), RD K m H d v → RD K m' H' d v
  | .non, v, h => by simp only [RD] at h ⊢; exact h
  | .bl b, v, h => by simp only [RD] at h ⊢; exact h
  | .int i, v, h => by simp only [RD] at h ⊢; exact h
  | .str s, v, h => by simp only [RD] at h ⊢; exact h
  | .tup ds, v, h => by
    simp only [RD] at h ⊢
    obtain ⟨a, vs, e, q, r⟩ := h
    exact ⟨a, vs, e, x.le.sqT q, RDs.mono x ds vs r⟩
  | .loc n, v, h => by
    simp only [RD] at h ⊢
    obtain ⟨a, e, q⟩ := h
    exact ⟨a, e, pre_get x.pre q⟩
  | .xc c ns ds, v, h => by
    simp only [RD] at h ⊢
    obtain ⟨a, dx, vs, e, q1, q2, r⟩ := h
    exact ⟨a, dx, vs, e, x.le.exts _ _ q1, x.le.xds _ _ q2, RDs.mono x ds vs r⟩
  | .lam f c q m0 H0, v, h => by
    simp only [RD] at h ⊢
    exact ⟨h.1, x.le.exts _ _ h.2.1, h.2.2.trans x⟩
  | .scr ns, v, h => by
    simp only [RD] at h ⊢
    obtain ⟨a, e, q⟩ := h
    refine ⟨a, e, ?_⟩
    rcases q with ⟨o, q⟩ | ⟨q, n⟩ | q
    · exact .inl ⟨o, x.le.frzs _ _ _ q⟩
    · exact .inr (.inl (x.keep _ _ q n))
    · exact .inr (.inr q)
theorem RDs.mono {K : PySem.W.Frag} {m m' : List Addr} {H H' : Hp} (x : Ext m H m' H') : ∀ (ds : List D) (vs : List V), RDs K m H ds vs → RDs K m' H' ds vs
  | [], vs, h => by simp only [RDs] at h ⊢; exact h
  | d :: ds, vs, h => by
    simp only [RDs] at h ⊢
    obtain ⟨v, r, e, q, t⟩ := h
    exact ⟨v, r, e, RD.mono x d v q, RDs.mono x ds r t⟩
end

def RKs {κ : Type} (K : PySem.W.Frag) (m : List Addr) (H : Hp) : List (κ × D) → List (κ × V) → Prop
  | [], vs => vs = []
  | d :: ds, vs => ∃ v r, vs = (d.1, v) :: r ∧ RD K m H d.2 v ∧ RKs K m H ds r
theorem RKs.mono {κ : Type} {K : PySem.W.Frag} {m m' : List Addr} {H H' : Hp} (x : Ext m H m' H') : ∀ (ds : List (κ × D)) (vs : List (κ × V)), RKs K m H ds vs → RKs K m' H' ds vs
  | [], vs, h => by simp only [RKs] at h ⊢; exact h
  | d :: ds, vs, h => by
    simp only [RKs] at h ⊢
    obtain ⟨v, r, e, q, t⟩ := h
    exact ⟨v, r, e, RD.mono x d.2 v q, RKs.mono x ds r t⟩

/-- the entries of a dict whose keys are tuples -/
def RTs (K : PySem.W.Frag) (m : List Addr) (H : Hp) : List (List Key × D) → List DictEntry → Prop
  | [], es => es = []
  | d :: ds, es => ∃ e r b v, es = e :: r ∧ e.key = .ref b ∧ SqT K H b (d.1.map kV) ∧ RelV v e.val ∧ RD K m H d.2 v ∧ RTs K m H ds r
theorem RTs.mono {K : PySem.W.Frag} {m m' : List Addr} {H H' : Hp} (x : Ext m H m' H') : ∀ (ds : List (List Key × D)) (es : List DictEntry), RTs K m H ds es → RTs K m' H' ds es
  | [], es, h => by simp only [RTs] at h ⊢; exact h
  | d :: ds, es, h => by
    simp only [RTs] at h ⊢
    obtain ⟨e, r, b, v, h1, h2, h3, h4, h5, t⟩ := h
    exact ⟨e, r, b, v, h1, h2, x.le.sqT h3, h4, RD.mono x d.2 v h5, RTs.mono x ds r t⟩
/-- a dict's object stands at a0, and that is not where the modules are -/
def dtAt (a0 : Addr) (ob : Obj) : Heap → Prop := fun h => (a0 == sysModules) = false ∧ h.get? a0 = some ob
def RO (K : PySem.W.Frag) (m : List Addr) (H : Hp) : O → Option HO → Prop
  | .lst ds, o => ∃ vs, o = some (.lst vs) ∧ RDs K m H ds vs
  | .fz ds, o => ∃ ob vs, o = some (.frz ob (.lst vs)) ∧ RDs K m H ds vs
  | .dK kvs, o => ∃ vs, o = some (.dK vs) ∧ RKs K m H kvs vs
  | .dT kvs, o => ∃ a0 ob es ep, o = some (.frz ob (.ext (dtAt a0 ob))) ∧ ob.ExactDict ∧ ob.data = .dict es ep ∧ RTs K m H kvs es.toList
  | .fd kvs, o => ∃ ob vs, o = some (.frz ob (.dK vs)) ∧ RKs K m H kvs vs
theorem RO.mono {K : PySem.W.Frag} {m m' : List Addr} {H H' : Hp} (x : Ext m H m' H') {o : O} {h : Option HO} (r : RO K m H o h) : RO K m' H' o h := by
  cases o with
  | lst ds => obtain ⟨vs, e, q⟩ := r; exact ⟨vs, e, RDs.mono x _ _ q⟩
  | fz ds => obtain ⟨ob, vs, e, q⟩ := r; exact ⟨ob, vs, e, RDs.mono x _ _ q⟩
  | dK ds => obtain ⟨vs, e, q⟩ := r; exact ⟨vs, e, RKs.mono x _ _ q⟩
  | dT ds => obtain ⟨a0, ob, es, ep, e, c, d, q⟩ := r; exact ⟨a0, ob, es, ep, e, c, d, RTs.mono x _ _ q⟩
  | fd ds => obtain ⟨ob, vs, e, q⟩ := r; exact ⟨ob, vs, e, RKs.mono x _ _ q⟩
theorem RO.plain {K : PySem.W.Frag} {m : List Addr} {H : Hp} {o : O} {h : Option HO} (r : RO K m H o h) : ∀ v, h = Option.some v → ¬ ((∃ ps, v = .tbl ps) ∨ (∃ φ, v = .ext φ) ∨ ∃ fs, v = .xd fs) := by
  intro v e z
  cases o with
  | lst ds => obtain ⟨vs, e', q⟩ := r; rw [e'] at e; cases e; rcases z with ⟨_, z⟩ | ⟨_, z⟩ | ⟨_, z⟩ <;> cases z
  | fz ds => obtain ⟨ob, vs, e', q⟩ := r; rw [e'] at e; cases e; rcases z with ⟨_, z⟩ | ⟨_, z⟩ | ⟨_, z⟩ <;> cases z
  | dK ds => obtain ⟨vs, e', q⟩ := r; rw [e'] at e; cases e; rcases z with ⟨_, z⟩ | ⟨_, z⟩ | ⟨_, z⟩ <;> cases z
  | dT ds => obtain ⟨a0, ob, es, ep, e', c, d, q⟩ := r; rw [e'] at e; cases e; rcases z with ⟨_, z⟩ | ⟨_, z⟩ | ⟨_, z⟩ <;> cases z
  | fd ds => obtain ⟨ob, vs, e', q⟩ := r; rw [e'] at e; cases e; rcases z with ⟨_, z⟩ | ⟨_, z⟩ | ⟨_, z⟩ <;> cases z
theorem RO.some {K : PySem.W.Frag} {m : List Addr} {H : Hp} {o : O} {h : Option HO} (r : RO K m H o h) : ∃ u, h = Option.some u := by
  cases o with
  | lst ds => obtain ⟨vs, e, q⟩ := r; exact ⟨_, e⟩
  | fz ds => obtain ⟨ob, vs, e, q⟩ := r; exact ⟨_, e⟩
  | dK ds => obtain ⟨vs, e, q⟩ := r; exact ⟨_, e⟩
  | dT ds => obtain ⟨a0, ob, es, ep, e, c, d, q⟩ := r; exact ⟨_, e⟩
  | fd ds => obtain ⟨ob, vs, e, q⟩ := r; exact ⟨_, e⟩

/-- the tables of code objects that lambdas write -/
class HasT where
  T : List (Addr × Str)
variable [HasT]
structure RS (K : PySem.W.Frag) (m : List Addr) (S : Sto) (H : Hp) : Prop where
  tb : LamX.Tabs HasT.T H
  nd : m.Nodup
  len : m.length = S.n
  at_ : ∀ i a, m[i]? = some a → ∃ o, S.get i = some o ∧ RO K m H o (H a)
theorem RS.obj {K : PySem.W.Frag} {m : List Addr} {S : Sto} {H : Hp} (r : RS K m S H) {i : Nat} {a : Addr} {o : O} (h : m[i]? = some a) (e : S.get i = some o) : RO K m H o (H a) := by
  obtain ⟨o', e', q⟩ := r.at_ i a h
  rw [e] at e'; cases e'
  exact q
theorem RS.notin {K : PySem.W.Frag} {m : List Addr} {S : Sto} {H : Hp} (r : RS K m S H) {p : Addr} (h : H p = none) : p ∉ m := fun hm => by
  obtain ⟨i, hi, e⟩ := List.mem_iff_getElem.mp hm
  obtain ⟨o, _, q⟩ := r.at_ i p (by rw [List.getElem?_eq_getElem hi, e])
  obtain ⟨u, z⟩ := q.some
  rw [h] at z; cases z
/-- something new that the store does not hold (a tuple) -/
theorem RS.new {K : PySem.W.Frag} {m : List Addr} {S : Sto} {H : Hp} (r : RS K m S H) {p : Addr} {o : HO} (h : H p = none) : RS K m S (upd H p o) :=
  ⟨r.tb.ext fun b u e => by rw [upd_ne (ne_of_none e h)]; exact e, r.nd, r.len, fun i a e => by
    obtain ⟨ob, g, q⟩ := r.at_ i a e
    refine ⟨ob, g, ?_⟩
    have na : a ≠ p := fun z => r.notin h (by rw [← z]; exact List.mem_of_getElem? e)
    rw [upd_ne na]
    exact q.mono (.new h)⟩
theorem nodup_snoc {α : Type} {l : List α} {a : α} (h : l.Nodup) (n : a ∉ l) : (l ++ [a]).Nodup := by
  rw [List.nodup_append]
  exact ⟨h, by simp, fun x hx y hy => by
    simp at hy; subst hy
    intro z; subst z; exact n hx⟩
/-- a new object of the store -/
theorem RS.push {K : PySem.W.Frag} {m : List Addr} {S : Sto} {H : Hp} (r : RS K m S H) {p : Addr} {o : O} {u : HO} (h : H p = none) (q : ∀ m' H', Ext m H m' H' → RO K m' H' o (some u)) : Ext m H (m ++ [p]) (upd H p u) ∧ RS K (m ++ [p]) (S.push o) (upd H p u) ∧ (m ++ [p])[S.n]? = some p := by
  have x : Ext m H (m ++ [p]) (upd H p u) := ⟨List.prefix_append _ _, .new h, fun b xs e n => ⟨by rw [upd_ne (ne_of_none e h)]; exact e, by
    intro z
    rcases List.mem_append.mp z with z | z
    · exact n z
    · exact ne_of_none e h (by simpa using z)⟩⟩
  refine ⟨x, ⟨r.tb.ext fun b u e => by rw [upd_ne (ne_of_none e h)]; exact e, nodup_snoc r.nd (r.notin h), by simp [r.len], fun i a e => ?_⟩, by rw [← r.len]; simp⟩
  by_cases hi : i < m.length
  · rw [List.getElem?_append_left hi] at e
    obtain ⟨ob, g, z⟩ := r.at_ i a e
    refine ⟨ob, by rw [Sto.get_push_lt (by rw [← r.len]; exact hi)]; exact g, ?_⟩
    have na : a ≠ p := fun y => r.notin h (by rw [← y]; exact List.mem_of_getElem? e)
    rw [upd_ne na]
    exact z.mono x
  · rw [List.getElem?_append_right (by omega)] at e
    have hi2 : i - m.length = 0 := by
      by_cases q : i - m.length = 0
      · exact q
      · rw [List.getElem?_eq_none (by simp; omega)] at e; cases e
    rw [hi2] at e
    have ea : p = a := Option.some.inj e
    subst ea
    have ei : i = S.n := by rw [← r.len]; omega
    subst ei
    refine ⟨o, Sto.get_push _ _, ?_⟩
    rw [upd_same]
    exact q _ _ x
theorem ix_inj {m : List Addr} (h : m.Nodup) {i j : Nat} {a : Addr} (e : m[i]? = some a) (e' : m[j]? = some a) : i = j := by
  have hi : i < m.length := by
    by_cases q : i < m.length
    · exact q
    · rw [List.getElem?_eq_none (by omega)] at e; cases e
  have hj : j < m.length := by
    by_cases q : j < m.length
    · exact q
    · rw [List.getElem?_eq_none (by omega)] at e'; cases e'
  rw [List.getElem?_eq_getElem hi] at e
  rw [List.getElem?_eq_getElem hj] at e'
  exact (List.getElem_inj h).mp (Option.some.inj (e.trans e'.symm))
/-- an object of the store is written -/
theorem RS.set {K : PySem.W.Frag} {m : List Addr} {S : Sto} {H : Hp} (r : RS K m S H) {i : Nat} {a : Addr} {o o' : O} {u u' : HO} (h : m[i]? = some a) (g : S.get i = some o') (hu : H a = some u') (nt : ∀ xs, u' ≠ .tup xs) (nf : ∀ ob x, u' ≠ .frz ob x)
    (q : ∀ m' H', Ext m H m' H' → RO K m' H' o (some u)) : Ext m H m (upd H a u) ∧ RS K m (S.set i o) (upd H a u) := by
  have plain := (r.obj h g).plain
  have ne : ∀ b v, H b = some v → ((∃ ps, v = .tbl ps) ∨ (∃ φ, v = .ext φ) ∨ ∃ fs, v = .xd fs) → b ≠ a := fun b v e z y => by
    subst y
    rw [e] at plain
    exact plain v rfl z
  have x : Ext m H m (upd H a u) := ⟨List.prefix_refl _, ⟨fun b xs e => by
    rw [upd_ne (fun z => by subst z; rw [hu] at e; exact nt xs (Option.some.inj e))]; exact e, fun b ob w e => by
    rw [upd_ne (fun z => by subst z; rw [hu] at e; exact nf ob w (Option.some.inj e))]; exact e, fun b φ e => by
    rw [upd_ne (ne _ _ e (.inr (.inl ⟨_, rfl⟩)))]; exact e, fun b φ e => by
    rw [upd_ne (ne _ _ e (.inr (.inr ⟨_, rfl⟩)))]; exact e⟩, fun b xs e n => ⟨by
    rw [upd_ne (fun z => n (by rw [z]; exact List.mem_of_getElem? h))]; exact e, n⟩⟩
  refine ⟨x, ?_, r.nd, r.len, fun j b e => ?_⟩
  · intro p hp
    obtain ⟨ps, h1, h2, h3⟩ := r.tb p hp
    refine ⟨ps, by rw [upd_ne (ne _ _ h1 (.inl ⟨ps, rfl⟩))]; exact h1, h2, fun pos cv hc => ?_⟩
    obtain ⟨c, e1, e2⟩ := h3 pos cv hc
    exact ⟨c, e1, by rw [upd_ne (ne _ _ e2 (.inr (.inl ⟨_, rfl⟩)))]; exact e2⟩
  by_cases hj : j = i
  · subst hj
    rw [h] at e
    have eb : a = b := Option.some.inj e
    subst eb
    refine ⟨o, Sto.get_set g, ?_⟩
    rw [upd_same]
    exact q _ _ x
  · obtain ⟨ob, g', z⟩ := r.at_ j b e
    refine ⟨ob, by rw [Sto.get_set_ne hj (Sto.lt_of g)]; exact g', ?_⟩
    have na : b ≠ a := fun y => hj (ix_inj r.nd e (by rw [y]; exact h))
    rw [upd_ne na]
    exact z.mono x

/-- the names' values -/
structure RE (K : PySem.W.Frag) (m : List Addr) (H : Hp) (σ : Env) (σv : St) : Prop where
  len : σ.length = σv.length
  at_ : ∀ (i : Nat) (d : D), σ[i]? = some (some d) → ∃ v, σv[i]? = some (some v) ∧ RD K m H d v
theorem RE.mono {K : PySem.W.Frag} {m m' : List Addr} {H H' : Hp} {σ : Env} {σv : St} (x : Ext m H m' H') (r : RE K m H σ σv) : RE K m' H' σ σv :=
  ⟨r.len, fun i d e => by obtain ⟨v, e', q⟩ := r.at_ i d e; exact ⟨v, e', RD.mono x _ _ q⟩⟩
theorem RE.set {K : PySem.W.Frag} {m : List Addr} {H : Hp} {σ : Env} {σv : St} (r : RE K m H σ σv) {d : D} {v : V} (q : RD K m H d v) (i : Nat) : RE K m H (σ.set i (some d)) (σv.set i (some v)) :=
  ⟨by simp [r.len], fun j e h => by
    by_cases hj : i = j
    · subst hj
      by_cases hl : i < σ.length
      · rw [List.getElem?_set_self hl] at h
        cases h
        exact ⟨v, by rw [List.getElem?_set_self (by rw [← r.len]; exact hl)], q⟩
      · rw [List.getElem?_eq_none (by simpa using hl)] at h; cases h
    · rw [List.getElem?_set_ne hj] at h
      rw [List.getElem?_set_ne hj]
      exact r.at_ j e h⟩

/-! ### what is asked of a result -/
/-- an exception as it lies: its class, its own dict -/
def RX (K : PySem.W.Frag) (m : List Addr) (H : Hp) (mg : Str → Option Value) (x : Xc) (c : Value) (d : Option Addr) : Prop :=
  ∃ dd vs, mg x.cls = some (.ref (He.ga K x.cls)) ∧ c = .ref (He.ga K x.cls) ∧ d = some dd ∧ H dd = some (.xd (x.ns.zip vs)) ∧ RDs K m H x.ds vs

def PostE (K : PySem.W.Frag) (mg : Str → Option Value) (m : List Addr) (H : Hp) (r : Res D) (Q : VK) (E : XK) : Prop := match r with
  | .ok d S' => ∀ m' H' v, Ext m H m' H' → RS K m' S' H' → RD K m' H' d v → Q v H'
  | .exc x S' => ∀ m' H' c d, Ext m H m' H' → RS K m' S' H' → RX K m' H' mg x c d → E c d H'
  | .bad => False
end L2.Z

set_option Elab.async false
set_option linter.all false
set_option maxRecDepth 100000
set_option maxHeartbeats 4000000
/-! Z2: judgements, expressions. -/
namespace L2.Z
open PySem PySem.Spec PyProof.Rows
variable [HasT]

def PostG {α : Type} (K : PySem.W.Frag) (mg : Str → Option Value) (m : List Addr) (H : Hp) (r : Res α) (P : α → Sto → List Addr → Hp → Prop) (E : XK) : Prop := match r with
  | .ok a S' => ∀ m' H', Ext m H m' H' → RS K m' S' H' → P a S' m' H'
  | .exc x S' => ∀ m' H' c d, Ext m H m' H' → RS K m' S' H' → RX K m' H' mg x c d → E c d H'
  | .bad => False
section
variable {K : PySem.W.Frag} {mg : Str → Option Value} {m m1 : List Addr} {H H1 : Hp} {α β : Type} {E : XK}
theorem PostG.ext {r : Res α} {P : α → Sto → List Addr → Hp → Prop} (h : PostG K mg m H r P E) (x : Ext m H m1 H1) : PostG K mg m1 H1 r P E := by
  cases r with
  | ok a S => exact fun m' H' y rs => h m' H' (x.trans y) rs
  | exc a S => exact fun m' H' c d y rs q => h m' H' c d (x.trans y) rs q
  | bad => exact h
theorem PostG.bnd {f : M α} {k : α → M β} {S : Sto} {P : β → Sto → List Addr → Hp → Prop} (h : PostG K mg m H (Z.bnd f k S) P E) : PostG K mg m H (f S) (fun a S1 m1 H1 => PostG K mg m1 H1 (k a S1) P E) E := by
  unfold Z.bnd at h
  cases e : f S with
  | ok a S1 =>
    rw [e] at h
    exact fun m' H' x rs => PostG.ext h x
  | exc a S1 =>
    rw [e] at h
    exact h
  | bad =>
    rw [e] at h
    exact h
theorem PostG.imp {r : Res α} {P P' : α → Sto → List Addr → Hp → Prop} (h : PostG K mg m H r P E) (q : ∀ a S m' H', P a S m' H' → P' a S m' H') : PostG K mg m H r P' E := by
  cases r with
  | ok a S => exact fun m' H' x rs => q _ _ _ _ (h m' H' x rs)
  | exc a S => exact h
  | bad => exact h
end

/-! ### expressions -/
def wE (X : Cx) (e : Expr) (σ : St) (H : Hp) (Q : VK) : Prop := ∀ pins s, Inv X pins σ H s → wpAny (model X.prog X.w) X.A (eval e X.env) (EP X pins σ Q) X.xe s
theorem pw {X : Cx} (e : Expr) : PE X e (wE X e) := ⟨fun pins s σ H Q I h => h pins s I⟩
theorem wE.mono {X : Cx} {e : Expr} {σ : St} {H : Hp} {Q Q' : VK} (h : wE X e σ H Q) (q : ∀ v H', Q v H' → Q' v H') : wE X e σ H Q' := fun pins s I =>
  thn (h pins s I) fun u s' ⟨v, H', I', r, z⟩ => ⟨v, H', I', r, q _ _ z⟩
theorem wE.of {X : Cx} {e : Expr} {t : TE} (h : PE X e t) {σ : St} {H : Hp} {Q : VK} (q : t σ H Q) : wE X e σ H Q := fun pins s I => h.run pins s σ H Q I q

/-- what a value's wish is from a wish about data -/
abbrev GV (K : PySem.W.Frag) (m : List Addr) (H : Hp) (P : D → Sto → List Addr → Hp → Prop) : VK := fun v H' => ∃ d S' m', RS K m' S' H' ∧ RD K m' H' d v ∧ Ext m H m' H' ∧ P d S' m' H'

structure QE (X : Cx) (e : Expr) (f : Env → M D) : Prop where
  run : ∀ (W : WX), Takes X W → ∀ (m : List Addr) (S : Sto) (σ : Env) (σv : St) (H : Hp) (P : D → Sto → List Addr → Hp → Prop), RS X.K m S H → RE X.K m H σ σv →
  PostG X.K X.mg m H (f σ S) P (fun c d H' => W c d σv H') → wE X e σv H (GV X.K m H P)

/-- a value at once -/
theorem qe_val {X : Cx} {e : Expr} {d : D} {t : V} (h : PE X e (tC t)) (r : ∀ m H, RD X.K m H d t) : QE X e (fun _ => ret d) := ⟨fun W tk m S σ σv H P rs re p =>
  wE.of h ⟨d, S, m, rs, r m H, .refl _ _, p m H (.refl _ _) rs⟩⟩

def eC (d : D) : Env → M D := fun _ => ret d
def eVar (i : Nat) : Env → M D := fun σ => match σ[i]? with
  | some (some d) => ret d
  | _ => bad
section
variable {X : Cx}
theorem q_int {i j pos} : QE X (.Constant (.int i) j pos) (eC (.int i)) := qe_val pe_int fun _ _ => by simp only [RD]
theorem q_bl {b j pos} : QE X (.Constant (.bool b) j pos) (eC (.bl b)) := qe_val pe_bl fun _ _ => by simp only [RD]
theorem q_non {j pos} : QE X (.Constant .none j pos) (eC .non) := qe_val pe_non fun _ _ => by simp only [RD]
theorem q_str {x j pos} : QE X (.Constant (.str x) j pos) (eC (.str x)) := qe_val pe_str fun _ _ => by simp only [RD]
def visB (sc : Scope) (x : Str) : Bool := match sc.names.lookup x with
  | some .local => true
  | some .cell => true
  | some .free => true
  | _ => false
theorem visB_ok {sc : Scope} {x : Str} (h : visB sc x = true) : Vis sc x := by
  unfold visB at h
  split at h
  · exact .inl (by assumption)
  · exact .inr (.inl (by assumption))
  · exact .inr (.inr (by assumption))
  · cases h
def locB (sc : Scope) (x : Str) : Bool := match sc.names.lookup x with
  | some .local => true
  | some .cell => true
  | _ => false
theorem locB_ok {sc : Scope} {x : Str} (h : locB sc x = true) : Loc sc x := by
  unfold locB at h
  split at h
  · exact .inl (by assumption)
  · exact .inr (by assumption)
  · cases h
def lclB (sc : Scope) (x : Str) : Bool := match sc.names.lookup x with
  | some .local => true
  | _ => false
theorem lclB_ok {sc : Scope} {x : Str} (h : lclB sc x = true) : sc.names.lookup x = some .local := by
  unfold lclB at h
  split at h
  · assumption
  · cases h
theorem fnB_ok {b : Bool} {sc : Scope} {x : Str} (h : (b || lclB sc x) = true) : b = true ∨ sc.names.lookup x = some .local := by
  rcases Bool.or_eq_true_iff.mp h with h | h
  · exact .inl h
  · exact .inr (lclB_ok h)
def glB (sc : Scope) (x : Str) : Bool := (match sc.names.lookup x with
  | some .globalImplicit => true
  | _ => false) && !(x == ("__debug__" : Str)) && !(x == ("__name__" : Str))
theorem glB_ok {X : Cx} {x : Str} (h : glB X.env.scope x = true) : Gl X x ∧ (x == ("__debug__" : Str)) = false ∧ x ≠ "__name__" := by
  unfold glB at h
  rw [Bool.and_eq_true, Bool.and_eq_true] at h
  obtain ⟨⟨h1, h2⟩, h3⟩ := h
  refine ⟨?_, by simpa using h2, by simpa using h3⟩
  split at h1
  · assumption
  · cases h1
/-- no name of a def is one of the two that are read otherwise -/
def NmOk (N : List Str) : Prop := ∀ x ∈ N, (x == ("__debug__" : Str)) = false ∧ (x == ("__classdict__" : Str)) = false
theorem q_var (i : Nat) {x : Str} {pos : Pos} (nm : NmOk X.N) (hN : X.N[i]? = some x := by kernel_rfl) (hv : visB X.env.scope x = true := by kernel_rfl) : QE X (.Name x pos) (eVar i) := ⟨fun W tk m S σ σv H P rs re p => by
  have hh := nm x (List.mem_of_getElem? hN)
  refine wE.of (pe_var hN (visB_ok hv) hh.1 hh.2) ?_
  unfold eVar at p
  cases e : σ[i]? with
  | none => rw [e] at p; exact p.elim
  | some o =>
    cases o with
    | none => rw [e] at p; exact p.elim
    | some d =>
      rw [e] at p
      obtain ⟨v, ev, r⟩ := re.at_ i d e
      exact ⟨v, ev, d, S, m, rs, r, .refl _ _, p m H (.refl _ _) rs⟩⟩
/-- a module's constant -/
theorem q_gint {x : Str} {i : Int} {pos : Pos} (hm : ∃ t, X.mg x = some (.int i t)) (hg : glB X.env.scope x = true := by kernel_rfl) : QE X (.Name x pos) (eC (.int i)) := by
  obtain ⟨t, hm⟩ := hm
  exact qe_val (pe_glob (glB_ok hg).1 hm (v := .int i) ⟨t, rfl⟩ (glB_ok hg).2.1) fun _ _ => by simp only [RD]
theorem q_gstr {x z : Str} {pos : Pos} (hm : ∃ t, X.mg x = some (.str z t)) (hg : glB X.env.scope x = true := by kernel_rfl) : QE X (.Name x pos) (eC (.str z)) := by
  obtain ⟨t, hm⟩ := hm
  exact qe_val (pe_glob (glB_ok hg).1 hm (v := .str z) ⟨t, rfl⟩ (glB_ok hg).2.1) fun _ _ => by simp only [RD]
end

/-! ### operations by values -/
def up (o : Sto → Option (D × Sto)) : M D := fun S => match o S with
  | some (d, S') => .ok d S'
  | none => .bad
theorem PostG.up {K : PySem.W.Frag} {mg : Str → Option Value} {m : List Addr} {H : Hp} {E : XK} {o : Sto → Option (D × Sto)} {S : Sto} {P : D → Sto → List Addr → Hp → Prop} (h : PostG K mg m H (Z.up o S) P E) :
    ∃ d S', o S = some (d, S') ∧ ∀ m' H', Ext m H m' H' → RS K m' S' H' → P d S' m' H' := by
  unfold Z.up at h
  cases e : o S with
  | none => rw [e] at h; exact h.elim
  | some p =>
    obtain ⟨d, S'⟩ := p
    rw [e] at h
    exact ⟨d, S', rfl, h⟩

abbrev F1 := D → Sto → Option (D × Sto)
abbrev F2 := D → D → Sto → Option (D × Sto)
abbrev FL := List D → Sto → Option (D × Sto)
def rF1 (K : PySem.W.Frag) (h : F1) : V → Hp → VK → Prop := fun x H Q => ∃ m S d0 d S', RS K m S H ∧ RD K m H d0 x ∧ h d0 S = some (d, S') ∧ ∀ m' H' v, Ext m H m' H' → RS K m' S' H' → RD K m' H' d v → Q v H'
def rF2 (K : PySem.W.Frag) (h : F2) : R2 := fun x y H Q => ∃ m S d1 d2 d S', RS K m S H ∧ RD K m H d1 x ∧ RD K m H d2 y ∧ h d1 d2 S = some (d, S') ∧ ∀ m' H' v, Ext m H m' H' → RS K m' S' H' → RD K m' H' d v → Q v H'
def rFL (K : PySem.W.Frag) (h : FL) : List V → Hp → VK → Prop := fun xs H Q => ∃ m S ds d S', RS K m S H ∧ RDs K m H ds xs ∧ h ds S = some (d, S') ∧ ∀ m' H' v, Ext m H m' H' → RS K m' S' H' → RD K m' H' d v → Q v H'
def rFM (K : PySem.W.Frag) (h : D → FL) : V → List V → Hp → VK → Prop := fun x xs H Q => ∃ m S d0 ds d S', RS K m S H ∧ RD K m H d0 x ∧ RDs K m H ds xs ∧ h d0 ds S = some (d, S') ∧ ∀ m' H' v, Ext m H m' H' → RS K m' S' H' → RD K m' H' d v → Q v H'

def e1 (h : F1) (f : Env → M D) : Env → M D := fun σ => bnd (f σ) fun x => up (h x)
def e2 (h : F2) (f g : Env → M D) : Env → M D := fun σ => bnd (f σ) fun x => bnd (g σ) fun y => up (h x y)
section
variable {X : Cx} {a b : Expr} {f g : Env → M D} {pos : Pos}
/-- the two parts, then what is made of them -/
theorem two (ha : QE X a f) (hb : QE X b g) {W : WX} (tk : Takes X W) {m : List Addr} {S : Sto} {σ : Env} {σv : St} {H : Hp} {h : F2} {P : D → Sto → List Addr → Hp → Prop} (rs : RS X.K m S H) (re : RE X.K m H σ σv)
    (p : PostG X.K X.mg m H (e2 h f g σ S) P (fun c d H' => W c d σv H')) : wE X a σv H fun x H1 => wE X b σv H1 fun y H2 => rF2 X.K h x y H2 (GV X.K m H P) := by
  have p1 := p.bnd
  refine (ha.run W tk m S σ σv H _ rs re p1).mono ?_
  rintro x H1 ⟨d1, S1, m1, rs1, r1, x1, q1⟩
  refine (hb.run W tk m1 S1 σ σv H1 _ rs1 (re.mono x1) q1.bnd).mono ?_
  rintro y H2 ⟨d2, S2, m2, rs2, r2, x2, q2⟩
  obtain ⟨d, S', e, q⟩ := q2.up
  exact ⟨m2, S2, d1, d2, d, S', rs2, RD.mono x2 _ _ r1, r2, e, fun m' H' v x' rs' rv => ⟨d, S', m', rs', rv, (x1.trans x2).trans x', q m' H' x' rs'⟩⟩
theorem q_op {op : Operator} {h : F2} (ho : OpR X (binaryOp op) (rF2 X.K h)) (ha : QE X a f) (hb : QE X b g) : QE X (.BinOp a op b pos) (e2 h f g) := ⟨fun W tk m S σ σv H P rs re p =>
  wE.of (pe_op ho (pw a) (pw b)) (two ha hb tk rs re p)⟩
theorem q_cmp {op : CmpOp} {h : F2} (ho : OpR X (compareOp op) (rF2 X.K h)) (ha : QE X a f) (hb : QE X b g) (hm : behindInMarks op b = false) : QE X (.Compare a [op] [b] pos) (e2 h f g) := ⟨fun W tk m S σ σv H P rs re p =>
  wE.of (pe_cmpR ho (pw a) (pw b) hm) (two ha hb tk rs re p)⟩
theorem one (ha : QE X a f) {W : WX} (tk : Takes X W) {m : List Addr} {S : Sto} {σ : Env} {σv : St} {H : Hp} {h : F1} {P : D → Sto → List Addr → Hp → Prop} (rs : RS X.K m S H) (re : RE X.K m H σ σv)
    (p : PostG X.K X.mg m H (e1 h f σ S) P (fun c d H' => W c d σv H')) : wE X a σv H fun x H1 => rF1 X.K h x H1 (GV X.K m H P) := by
  have p1 := p.bnd
  refine (ha.run W tk m S σ σv H _ rs re p1).mono ?_
  rintro x H1 ⟨d1, S1, m1, rs1, r1, x1, q1⟩
  obtain ⟨d, S', e, q⟩ := q1.up
  exact ⟨m1, S1, d1, d, S', rs1, r1, e, fun m' H' v x' rs' rv => ⟨d, S', m', rs', rv, x1.trans x', q m' H' x' rs'⟩⟩
theorem q_un {op : UnaryOp} {h : F1} (ho : UnR X (unaryOp op) (rF1 X.K h)) (ha : QE X a f) : QE X (.UnaryOp op a pos) (e1 h f) := ⟨fun W tk m S σ σv H P rs re p =>
  wE.of (pe_un ho (pw a)) (one ha tk rs re p)⟩
end

/-! ### arguments -/
def wA (X : Cx) (es : List Expr) (σ : St) (H : Hp) (Q : List V → Hp → Prop) : Prop := ∀ pos pins s, Inv X pins σ H s → wpAny (model X.prog X.w) X.A (spliced (backTo pos (starEach es X.env))) (AP X pins σ Q) X.xe s
theorem paw {X : Cx} (es : List Expr) : PA X es (wA X es) := ⟨fun pos pins s σ H Q I h => h pos pins s I⟩
abbrev GA (K : PySem.W.Frag) (m : List Addr) (H : Hp) (P : List D → Sto → List Addr → Hp → Prop) : List V → Hp → Prop := fun vs H' => ∃ ds S' m', RS K m' S' H' ∧ RDs K m' H' ds vs ∧ Ext m H m' H' ∧ P ds S' m' H'
structure QA (X : Cx) (es : List Expr) (f : Env → M (List D)) : Prop where
  run : ∀ (W : WX), Takes X W → ∀ (m : List Addr) (S : Sto) (σ : Env) (σv : St) (H : Hp) (P : List D → Sto → List Addr → Hp → Prop), RS X.K m S H → RE X.K m H σ σv →
  PostG X.K X.mg m H (f σ S) P (fun c d H' => W c d σv H') → wA X es σv H (GA X.K m H P)
def aNil : Env → M (List D) := fun _ => ret []
def aCons (f : Env → M D) (g : Env → M (List D)) : Env → M (List D) := fun σ => bnd (f σ) fun x => bnd (g σ) fun xs => ret (x :: xs)
theorem star1 {e : Expr} {es : List Expr} {env : PySem.Env} (h : PySem.W.isStarred e = false) : starEach (e :: es) env = (false, eval e env) :: starEach es env := by
  cases e <;> first | rfl | cases h
theorem star2 {es : List Expr} {env : PySem.Env} {pos : Pos} (h : es.any PySem.W.isStarred = false) : (backTo pos (starEach es env)).any (·.1) = false := by
  induction es with
  | nil => rfl
  | cons e es ih =>
    rw [List.any_cons, Bool.or_eq_false_iff] at h
    rw [star1 h.1]
    show (false || (backTo pos (starEach es env)).any (·.1)) = false
    rw [ih h.2]; rfl
section
variable {X : Cx} {e : Expr} {es : List Expr} {f : Env → M D} {g : Env → M (List D)}
theorem qa_nil : QA X [] aNil := ⟨fun W tk m S σ σv H P rs re p pos pins s I =>
  pa_nil.run pos pins s σv H _ I ⟨[], S, m, rs, by simp only [RDs], .refl _ _, p m H (.refl _ _) rs⟩⟩
theorem qa_cons (ha : QE X e f) (hr : QA X es g) (hs : PySem.W.isStarred e = false := by rfl) : QA X (e :: es) (aCons f g) := ⟨fun W tk m S σ σv H P rs re p pos pins s I => by
  refine (pa_cons (pw e) (paw es) (star1 hs)).run pos pins s σv H _ I ?_
  refine (ha.run W tk m S σ σv H _ rs re p.bnd).mono ?_
  rintro x H1 ⟨d1, S1, m1, rs1, r1, x1, q1⟩
  intro pos' pins' s' I'
  refine thn (hr.run W tk m1 S1 σ σv H1 _ rs1 (re.mono x1) q1.bnd pos' pins' s' I') ?_
  rintro us s2 ⟨vs, H2, I2, rv, ds, S2, m2, rs2, r2, x2, q2⟩
  refine ⟨vs, H2, I2, rv, d1 :: ds, S2, m2, rs2, ?_, x1.trans x2, q2 m2 H2 (.refl _ _) rs2⟩
  simp only [RDs]
  exact ⟨x, vs, rfl, RD.mono x2 _ _ r1, r2⟩⟩
end

/-! ### displays -/
def mkTup (ds : List D) : Sto → Option (D × Sto) := fun S => match Nat.ble ds.length sizeLine with
  | true => some (.tup ds, S)
  | false => none
def mkLst (ds : List D) : Sto → Option (D × Sto) := fun S => match Nat.ble ds.length sizeLine with
  | true => some (.loc S.n, S.push (.lst ds))
  | false => none
def eTup (g : Env → M (List D)) : Env → M D := fun σ => bnd (g σ) fun ds => up (mkTup ds)
def eLst (g : Env → M (List D)) : Env → M D := fun σ => bnd (g σ) fun ds => up (mkLst ds)
theorem RDs.length {K : PySem.W.Frag} {m : List Addr} {H : Hp} : ∀ {ds : List D} {vs : List V}, RDs K m H ds vs → ds.length = vs.length
  | [], vs, h => by simp only [RDs] at h; subst h; rfl
  | d :: ds, vs, h => by
    simp only [RDs] at h
    obtain ⟨v, r, e, _, t⟩ := h
    subst e
    simp [RDs.length t]
theorem RD.newTup {K : PySem.W.Frag} {m : List Addr} {H : Hp} {p : Addr} {ds : List D} {vs : List V} (hp : H p = none) (r : RDs K m H ds vs) : RD K m (upd H p (.tup vs)) (.tup ds) (.ref p) := by
  simp only [RD]
  exact ⟨p, vs, rfl, SqT.of upd_same, RDs.mono (.new hp) _ _ r⟩
section
variable {X : Cx} {es : List Expr} {g : Env → M (List D)} {pos : Pos}
theorem q_tup {k} (h : QA X es g) : QE X (.Tuple es k pos) (eTup g) := ⟨fun W tk m S σ σv H P rs re p => by
  refine wE.of (pe_tup (paw es)) ?_
  intro pos' pins' s' I'
  refine thn (h.run W tk m S σ σv H _ rs re p.bnd pos' pins' s' I') ?_
  rintro us s2 ⟨vs, H2, I2, rv, ds, S2, m2, rs2, r2, x2, q2⟩
  obtain ⟨d, S', e, q⟩ := q2.up
  unfold mkTup at e
  split at e
  · rename_i hl
    cases e
    refine ⟨vs, H2, I2, rv, by rw [← r2.length]; exact Nat.le_of_ble_eq_true hl, fun t ht => ?_⟩
    have rs3 := rs2.new (o := .tup vs) ht
    exact ⟨.tup ds, S2, m2, rs3, RD.newTup ht r2, x2.trans (.new ht), q m2 _ (.new ht) rs3⟩
  · cases e⟩
theorem q_lst (h : QA X es g) : QE X (.List es pos) (eLst g) := ⟨fun W tk m S σ σv H P rs re p => by
  refine wE.of (pe_lst (paw es)) ?_
  intro pos' pins' s' I'
  refine thn (h.run W tk m S σ σv H _ rs re p.bnd pos' pins' s' I') ?_
  rintro us s2 ⟨vs, H2, I2, rv, ds, S2, m2, rs2, r2, x2, q2⟩
  obtain ⟨d, S', e, q⟩ := q2.up
  unfold mkLst at e
  split at e
  · rename_i hl
    cases e
    refine ⟨vs, H2, I2, rv, by rw [← r2.length]; exact Nat.le_of_ble_eq_true hl, fun t ht => ?_⟩
    obtain ⟨x3, rs3, g3⟩ := rs2.push (o := .lst ds) (u := .lst vs) ht (fun m' H' x => ⟨vs, rfl, RDs.mono x _ _ r2⟩)
    refine ⟨.loc S2.n, S2.push (.lst ds), _, rs3, ?_, x2.trans x3, q _ _ x3 rs3⟩
    simp only [RD]
    exact ⟨t, rfl, g3⟩
  · cases e⟩
end

/-! ### calls of built-ins by their names -/
def eCB (h : FL) (g : Env → M (List D)) : Env → M D := fun σ => bnd (g σ) fun ds => up (h ds)
section
variable {X : Cx} {x : Str} {p pos : Pos} {e : Expr} {es : List Expr} {g : Env → M (List D)} {id T : String} {h : FL}
theorem args (ha : QA X es g) {W : WX} (tk : Takes X W) {m : List Addr} {S : Sto} {σ : Env} {σv : St} {H : Hp} {h : FL} {P : D → Sto → List Addr → Hp → Prop} (rs : RS X.K m S H) (re : RE X.K m H σ σv)
    (p : PostG X.K X.mg m H (eCB h g σ S) P (fun c d H' => W c d σv H')) : wA X es σv H fun xs H1 => rFL X.K h xs H1 (GV X.K m H P) := by
  intro pos' pins' s' I'
  refine thn (ha.run W tk m S σ σv H _ rs re p.bnd pos' pins' s' I') ?_
  rintro us s2 ⟨vs, H2, I2, rv, ds, S2, m2, rs2, r2, x2, q2⟩
  obtain ⟨d, S', e, q⟩ := q2.up
  exact ⟨vs, H2, I2, rv, m2, S2, ds, d, S', rs2, r2, e, fun m' H' v x' rs' rv => ⟨d, S', m', rs', rv, x2.trans x', q m' H' x' rs'⟩⟩
theorem q_callB (hc : CallR X (.builtin id) (rFL X.K h)) (hm : X.mg x = none) (hv : bootBuiltins x = some (.builtin id)) (ha : QA X (e :: es) g) (hg : glB X.env.scope x = true := by kernel_rfl)
    (he : PySem.W.isStarred e = false := by rfl) (hpl : es.any PySem.W.isStarred = false := by rfl) : QE X (.Call (.Name x p) (e :: es) [] pos) (eCB h g) := ⟨fun W tk m S σ σv H P rs re q =>
  wE.of (pe_callB hc (glB_ok hg).1 hm hv (paw (e :: es)) (glB_ok hg).2.2 (glB_ok hg).2.1 (star1 he) (star2 hpl)) (args ha tk rs re q)⟩
theorem q_callTy (hc : CallR X (.type T) (rFL X.K h)) (hm : X.mg x = none) (hv : bootBuiltins x = some (.type T)) (ha : QA X (e :: es) g) (hg : glB X.env.scope x = true := by kernel_rfl)
    (he : PySem.W.isStarred e = false := by rfl) (hpl : es.any PySem.W.isStarred = false := by rfl) : QE X (.Call (.Name x p) (e :: es) [] pos) (eCB h g) := ⟨fun W tk m S σ σv H P rs re q =>
  wE.of (pe_callTy hc (glB_ok hg).1 hm hv (paw (e :: es)) (glB_ok hg).2.2 (glB_ok hg).2.1 (star1 he) (star2 hpl)) (args ha tk rs re q)⟩
end
end L2.Z

set_option Elab.async false
set_option linter.all false
set_option maxRecDepth 100000
set_option maxHeartbeats 4000000
/-! Z3: tests, and or not, calls of defs, statements. -/
namespace L2.Z
open PySem PySem.Spec PyProof.Rows
variable [HasT]

/-! ### truth -/
def tru (d : D) (S : Sto) : Option Bool := match d with
  | .non => some false
  | .bl b => some b
  | .int i => some (i != 0)
  | .str y => match Nat.ble y.length sizeLine with
    | true => some ((y.length : Int) != 0)
    | false => none
  | .tup xs => some (!xs.isEmpty)
  | .loc n => match S.get n with
    | some (.lst xs) => some (!xs.isEmpty)
    | some (.fz xs) => some (!xs.isEmpty)
    | some (.dK kvs) => some (!kvs.isEmpty)
    | _ => none
  | .xc _ _ _ => none
  | .lam _ _ _ _ _ => none
  | .scr ns => some (!ns.isEmpty)
theorem RDs.isEmpty {K : PySem.W.Frag} {m : List Addr} {H : Hp} {ds : List D} {vs : List V} (r : RDs K m H ds vs) : ds.isEmpty = vs.isEmpty := by
  have := r.length
  cases ds <;> cases vs <;> simp_all
theorem RKs.length {κ : Type} {K : PySem.W.Frag} {m : List Addr} {H : Hp} : ∀ {ds : List (κ × D)} {vs : List (κ × V)}, RKs K m H ds vs → ds.length = vs.length
  | [], vs, h => by simp only [RKs] at h; subst h; rfl
  | d :: ds, vs, h => by
    simp only [RKs] at h
    obtain ⟨v, r, e, _, t⟩ := h
    subst e
    simp [RKs.length t]
theorem RKs.isEmpty {κ : Type} {K : PySem.W.Frag} {m : List Addr} {H : Hp} {ds : List (κ × D)} {vs : List (κ × V)} (r : RKs K m H ds vs) : ds.isEmpty = vs.isEmpty := by
  have := r.length
  cases ds <;> cases vs <;> simp_all
theorem tru_V {K : PySem.W.Frag} {m : List Addr} {S : Sto} {H : Hp} {d : D} {v : V} {b : Bool} (rs : RS K m S H) (r : RD K m H d v) (h : tru d S = some b) : TruV K v H b := by
  cases d with
  | non => simp only [RD] at r; subst r; cases h; rfl
  | bl c => simp only [RD] at r; subst r; cases h; rfl
  | int i => simp only [RD] at r; subst r; cases h; rfl
  | str y =>
    simp only [RD] at r; subst r
    simp only [tru] at h
    split at h
    · rename_i q; cases h; exact ⟨Nat.le_of_ble_eq_true q, rfl⟩
    · cases h
  | tup xs =>
    simp only [RD] at r
    obtain ⟨a, vs, e, q, t⟩ := r
    subst e
    cases h
    exact .inr (.inl ⟨vs, q, by rw [t.isEmpty]⟩)
  | loc n =>
    simp only [RD] at r
    obtain ⟨a, e, q⟩ := r
    subst e
    simp only [tru] at h
    cases g : S.get n with
    | none => rw [g] at h; cases h
    | some o =>
      have ro := rs.obj q g
      rw [g] at h
      cases o with
      | lst xs =>
        cases h
        obtain ⟨vs, e, t⟩ := ro
        exact .inl ⟨vs, SqL.of e, by rw [t.isEmpty]⟩
      | fz xs =>
        cases h
        obtain ⟨ob, vs, e, t⟩ := ro
        exact .inl ⟨vs, .inl (.inr ⟨ob, e⟩), by rw [t.isEmpty]⟩
      | dK kvs =>
        cases h
        obtain ⟨vs, e, t⟩ := ro
        exact .inr (.inr ⟨vs, e, by rw [t.isEmpty]⟩)
      | dT _ => cases h
      | fd _ => cases h
  | xc _ _ _ => cases h
  | lam _ _ _ _ _ => cases h
  | scr ns =>
    simp only [RD] at r
    obtain ⟨a, rfl, q⟩ := r
    cases h
    exact .inl ⟨_, q.sq, by cases ns <;> rfl⟩

def truM (d : D) : M Bool := fun S => match tru d S with
  | some b => .ok b S
  | none => .bad

/-! ### tests -/
def wT (X : Cx) (e : Expr) (σ : St) (H : Hp) (Q : Bool → Hp → Prop) : Prop := ∀ pins s, Inv X pins σ H s → wpAny (model X.prog X.w) X.A (isTrue e X.env (eval e X.env)) (TP X pins σ Q) X.xe s
theorem ptw {X : Cx} (e : Expr) : PT X e (wT X e) := ⟨fun pins s σ H Q I h => h pins s I⟩
def wW (X : Cx) (e : Expr) (σ : St) (H : Hp) (Q : Bool → Hp → Prop) : Prop := ∀ whole pins s, Inv X pins σ H s → wpAny (model X.prog X.w) X.A (isTrue e X.env whole) (TP X pins σ Q) X.xe s
theorem pww {X : Cx} (e : Expr) : PW X e (wW X e) := ⟨fun whole pins s σ H Q I h => h whole pins s I⟩
theorem wT.of {X : Cx} {e : Expr} {t : TT} (h : PT X e t) {σ : St} {H : Hp} {Q : Bool → Hp → Prop} (q : t σ H Q) : wT X e σ H Q := fun pins s I => h.run pins s σ H Q I q
theorem wW.of {X : Cx} {e : Expr} {t : TT} (h : PW X e t) {σ : St} {H : Hp} {Q : Bool → Hp → Prop} (q : t σ H Q) : wW X e σ H Q := fun whole pins s I => h.run whole pins s σ H Q I q
theorem wT.mono {X : Cx} {e : Expr} {σ : St} {H : Hp} {Q Q' : Bool → Hp → Prop} (h : wT X e σ H Q) (q : ∀ v H', Q v H' → Q' v H') : wT X e σ H Q' := fun pins s I =>
  thn (h pins s I) fun u s' ⟨H', I', z⟩ => ⟨H', I', q _ _ z⟩
theorem wW.mono {X : Cx} {e : Expr} {σ : St} {H : Hp} {Q Q' : Bool → Hp → Prop} (h : wW X e σ H Q) (q : ∀ v H', Q v H' → Q' v H') : wW X e σ H Q' := fun wh pins s I =>
  thn (h wh pins s I) fun u s' ⟨H', I', z⟩ => ⟨H', I', q _ _ z⟩
abbrev GB (K : PySem.W.Frag) (m : List Addr) (H : Hp) (P : Bool → Sto → List Addr → Hp → Prop) : Bool → Hp → Prop := fun b H' => ∃ S' m', RS K m' S' H' ∧ Ext m H m' H' ∧ P b S' m' H'
structure QT (X : Cx) (e : Expr) (f : Env → M Bool) : Prop where
  run : ∀ (W : WX), Takes X W → ∀ (m : List Addr) (S : Sto) (σ : Env) (σv : St) (H : Hp) (P : Bool → Sto → List Addr → Hp → Prop), RS X.K m S H → RE X.K m H σ σv →
  PostG X.K X.mg m H (f σ S) P (fun c d H' => W c d σv H') → wT X e σv H (GB X.K m H P)
structure QW (X : Cx) (e : Expr) (f : Env → M Bool) : Prop where
  run : ∀ (W : WX), Takes X W → ∀ (m : List Addr) (S : Sto) (σ : Env) (σv : St) (H : Hp) (P : Bool → Sto → List Addr → Hp → Prop), RS X.K m S H → RE X.K m H σ σv →
  PostG X.K X.mg m H (f σ S) P (fun c d H' => W c d σv H') → wW X e σv H (GB X.K m H P)
theorem QW.t {X : Cx} {e : Expr} {f : Env → M Bool} (h : QW X e f) : QT X e f := ⟨fun W tk m S σ σv H P rs re p pins s I => h.run W tk m S σ σv H P rs re p _ pins s I⟩

def tV (f : Env → M D) : Env → M Bool := fun σ => bnd (f σ) truM
def tNotM (t : Env → M Bool) : Env → M Bool := fun σ => bnd (t σ) fun b => ret (!b)
def tAndM (t u : Env → M Bool) : Env → M Bool := fun σ => bnd (t σ) fun b => match b with
  | true => u σ
  | false => ret false
def tOrM (t u : Env → M Bool) : Env → M Bool := fun σ => bnd (t σ) fun b => match b with
  | true => ret true
  | false => u σ
theorem PostG.truM {K : PySem.W.Frag} {mg : Str → Option Value} {m : List Addr} {H : Hp} {E : XK} {d : D} {S : Sto} {P : Bool → Sto → List Addr → Hp → Prop} (h : PostG K mg m H (Z.truM d S) P E) (rs : RS K m S H) :
    ∃ b, tru d S = some b ∧ P b S m H := by
  unfold Z.truM at h
  cases e : tru d S with
  | none => rw [e] at h; exact h.elim
  | some b => rw [e] at h; exact ⟨b, rfl, h m H (.refl _ _) rs⟩
def BoolF (h : F2) : Prop := ∀ x y S d S', h x y S = some (d, S') → ∃ b, d = .bl b
section
variable {X : Cx} {a b : Expr} {rest : List Expr} {f g : Env → M D} {t u : Env → M Bool} {pos : Pos}
theorem qt_val (ha : QE X a f) (he : ∀ whole, isTrue a X.env whole = (do let v ← whole; standAt a.pos; holding [v] (truthy v)) := by intro _; rfl) : QT X a (tV f) := ⟨fun W tk m S σ σv H P rs re p => by
  refine wT.of (pt_truth (pw a) he) ?_
  refine (ha.run W tk m S σ σv H _ rs re p.bnd).mono ?_
  rintro x H1 ⟨d1, S1, m1, rs1, r1, x1, q1⟩
  obtain ⟨b, e, q⟩ := q1.truM rs1
  exact ⟨b, tru_V rs1 r1 e, S1, m1, rs1, x1, q⟩⟩
theorem qt_cmp {op : CmpOp} {h : F2} (hb : BoolF h) (ho : OpR X (compareOp op) (rF2 X.K h)) (ha : QE X a f) (hc : QE X b g) (hm : behindInMarks op b = false) : QT X (.Compare a [op] [b] pos) (tV (e2 h f g)) := ⟨fun W tk m S σ σv H P rs re p => by
  refine wT.of (pt_cmpR ho (pw a) (pw b) hm) ?_
  have p1 := p.bnd
  refine (two ha hc tk rs re p1).mono ?_
  intro x H1 q1
  refine wE.mono q1 ?_
  rintro y H2 ⟨m2, S2, d1, d2, d, S', rs2, r1, r2, e, q⟩
  refine ⟨m2, S2, d1, d2, d, S', rs2, r1, r2, e, fun m' H' v x' rs' rv => ?_⟩
  obtain ⟨dd, SS, mm, rs3, rv3, x3, q3⟩ := q m' H' v x' rs' rv
  obtain ⟨k, ek, q4⟩ := q3.truM rs3
  obtain ⟨kk, rfl⟩ := hb _ _ _ _ _ e
  simp only [RD] at rv
  subst rv
  cases dd with
  | bl c =>
    simp only [RD] at rv3
    cases rv3
    cases ek
    exact ⟨_, rfl, SS, mm, rs3, x3, q4⟩
  | non => simp only [RD] at rv3; cases rv3
  | int i => simp only [RD] at rv3; cases rv3
  | str i => simp only [RD] at rv3; cases rv3
  | tup i => simp only [RD] at rv3; obtain ⟨_, _, z, _⟩ := rv3; cases z
  | loc i => simp only [RD] at rv3; obtain ⟨_, z, _⟩ := rv3; cases z
  | xc _ _ _ => simp only [RD] at rv3; obtain ⟨_, _, _, z, _⟩ := rv3; cases z
  | lam _ _ _ _ _ => simp only [RD] at rv3; obtain ⟨z, _⟩ := rv3; cases z
  | scr _ => simp only [RD] at rv3; obtain ⟨_, z, _⟩ := rv3; cases z⟩
theorem qt_not (ha : QT X a t) : QT X (.UnaryOp .Not a pos) (tNotM t) := ⟨fun W tk m S σ σv H P rs re p => by
  refine wT.of (pt_not (ptw a)) ?_
  refine (ha.run W tk m S σ σv H _ rs re p.bnd).mono ?_
  rintro b H1 ⟨S1, m1, rs1, x1, q1⟩
  exact ⟨S1, m1, rs1, x1, q1 m1 H1 (.refl _ _) rs1⟩⟩
theorem qw_and1 (ha : QT X a t) : QW X (.BoolOp .And [a] pos) t := ⟨fun W tk m S σ σv H P rs re p => wW.of (pw_and1 (ptw a)) (ha.run W tk m S σ σv H P rs re p)⟩
theorem qw_or1 (ha : QT X a t) : QW X (.BoolOp .Or [a] pos) t := ⟨fun W tk m S σ σv H P rs re p => wW.of (pw_or1 (ptw a)) (ha.run W tk m S σ σv H P rs re p)⟩
theorem GB.trans {K : PySem.W.Frag} {m m1 : List Addr} {H H1 : Hp} {P : Bool → Sto → List Addr → Hp → Prop} (x : Ext m H m1 H1) {b : Bool} {H' : Hp} (h : GB K m1 H1 P b H') : GB K m H P b H' := by
  obtain ⟨S', m', rs, x', q⟩ := h
  exact ⟨S', m', rs, x.trans x', q⟩
theorem qw_and (ha : QT X a t) (hb : QW X (.BoolOp .And (b :: rest) pos) u) : QW X (.BoolOp .And (a :: b :: rest) pos) (tAndM t u) := ⟨fun W tk m S σ σv H P rs re p => by
  refine wW.of (pw_and (ptw a) (pww _)) ?_
  refine (ha.run W tk m S σ σv H _ rs re p.bnd).mono ?_
  rintro c H1 ⟨S1, m1, rs1, x1, q1⟩
  cases c with
  | true => exact iteT ((hb.run W tk m1 S1 σ σv H1 P rs1 (re.mono x1) q1).mono fun v H' => GB.trans x1)
  | false => exact iteF ⟨S1, m1, rs1, x1, q1 m1 H1 (.refl _ _) rs1⟩⟩
theorem qw_or (ha : QT X a t) (hb : QW X (.BoolOp .Or (b :: rest) pos) u) : QW X (.BoolOp .Or (a :: b :: rest) pos) (tOrM t u) := ⟨fun W tk m S σ σv H P rs re p => by
  refine wW.of (pw_or (ptw a) (pww _)) ?_
  refine (ha.run W tk m S σ σv H _ rs re p.bnd).mono ?_
  rintro c H1 ⟨S1, m1, rs1, x1, q1⟩
  cases c with
  | true => exact iteT ⟨S1, m1, rs1, x1, q1 m1 H1 (.refl _ _) rs1⟩
  | false => exact iteF ((hb.run W tk m1 S1 σ σv H1 P rs1 (re.mono x1) q1).mono fun v H' => GB.trans x1)⟩
end

/-! ### values of and, or, not, if -/
def eNot (t : Env → M D) : Env → M D := fun σ => bnd (t σ) fun x => match x with
  | .bl b => ret (.bl (!b))
  | _ => bad
def eAnd (f g : Env → M D) : Env → M D := fun σ => bnd (f σ) fun x => match x with
  | .bl true => g σ
  | .bl false => ret (.bl false)
  | _ => bad
def eOr (f g : Env → M D) : Env → M D := fun σ => bnd (f σ) fun x => match x with
  | .bl true => ret (.bl true)
  | .bl false => g σ
  | _ => bad
def eIf (t : Env → M Bool) (f g : Env → M D) : Env → M D := fun σ => bnd (t σ) fun b => match b with
  | true => f σ
  | false => g σ
theorem GV.trans {K : PySem.W.Frag} {m m1 : List Addr} {H H1 : Hp} {P : D → Sto → List Addr → Hp → Prop} (x : Ext m H m1 H1) {v : V} {H' : Hp} (h : GV K m1 H1 P v H') : GV K m H P v H' := by
  obtain ⟨d, S', m', rs, r, x', q⟩ := h
  exact ⟨d, S', m', rs, r, x.trans x', q⟩
section
variable {X : Cx} {a b c : Expr} {rest : List Expr} {f g : Env → M D} {t u : Env → M Bool} {pos : Pos}
theorem q_not (ha : QE X a f) : QE X (.UnaryOp .Not a pos) (eNot f) := ⟨fun W tk m S σ σv H P rs re p => by
  refine wE.of (pe_not (pw a)) ?_
  refine (ha.run W tk m S σ σv H _ rs re p.bnd).mono ?_
  rintro x H1 ⟨d1, S1, m1, rs1, r1, x1, q1⟩
  cases d1 with
  | bl k =>
    simp only [RD] at r1
    exact ⟨k, r1, .bl (!k), S1, m1, rs1, by simp only [RD], x1, q1 m1 H1 (.refl _ _) rs1⟩
  | _ => exact q1.elim⟩
theorem q_one {op} (h : QE X a f) : QE X (.BoolOp op [a] pos) f := ⟨fun W tk m S σ σv H P rs re p => wE.of (pe_one (pw a)) (h.run W tk m S σ σv H P rs re p)⟩
theorem q_and (ha : QE X a f) (hb : QE X (.BoolOp .And (b :: rest) pos) g) : QE X (.BoolOp .And (a :: b :: rest) pos) (eAnd f g) := ⟨fun W tk m S σ σv H P rs re p => by
  refine wE.of (pe_and (pw a) (pw _)) ?_
  refine (ha.run W tk m S σ σv H _ rs re p.bnd).mono ?_
  rintro x H1 ⟨d1, S1, m1, rs1, r1, x1, q1⟩
  cases d1 with
  | bl k =>
    simp only [RD] at r1
    refine ⟨k, r1, ?_⟩
    cases k with
    | true => exact iteT ((hb.run W tk m1 S1 σ σv H1 P rs1 (re.mono x1) q1).mono fun v H' => GV.trans x1)
    | false => exact iteF ⟨.bl false, S1, m1, rs1, by simp only [RD], x1, q1 m1 H1 (.refl _ _) rs1⟩
  | _ => exact q1.elim⟩
theorem q_or (ha : QE X a f) (hb : QE X (.BoolOp .Or (b :: rest) pos) g) : QE X (.BoolOp .Or (a :: b :: rest) pos) (eOr f g) := ⟨fun W tk m S σ σv H P rs re p => by
  refine wE.of (pe_or (pw a) (pw _)) ?_
  refine (ha.run W tk m S σ σv H _ rs re p.bnd).mono ?_
  rintro x H1 ⟨d1, S1, m1, rs1, r1, x1, q1⟩
  cases d1 with
  | bl k =>
    simp only [RD] at r1
    refine ⟨k, r1, ?_⟩
    cases k with
    | true => exact iteT ⟨.bl true, S1, m1, rs1, by simp only [RD], x1, q1 m1 H1 (.refl _ _) rs1⟩
    | false => exact iteF ((hb.run W tk m1 S1 σ σv H1 P rs1 (re.mono x1) q1).mono fun v H' => GV.trans x1)
  | _ => exact q1.elim⟩
theorem q_if (hc : QT X c t) (ha : QE X a f) (hb : QE X b g) : QE X (.IfExp c a b pos) (eIf t f g) := ⟨fun W tk m S σ σv H P rs re p => by
  refine wE.of (pe_ifExp (ptw c) (pw a) (pw b)) ?_
  refine (hc.run W tk m S σ σv H _ rs re p.bnd).mono ?_
  rintro k H1 ⟨S1, m1, rs1, x1, q1⟩
  cases k with
  | true => exact iteT ((ha.run W tk m1 S1 σ σv H1 P rs1 (re.mono x1) q1).mono fun v H' => GV.trans x1)
  | false => exact iteF ((hb.run W tk m1 S1 σ σv H1 P rs1 (re.mono x1) q1).mono fun v H' => GV.trans x1)⟩
end

/-! ### a op b op c -/
def eChain (h h' : F2) (f g k : Env → M D) : Env → M D := fun σ => bnd (f σ) fun x => bnd (g σ) fun y => bnd (up (h x y)) fun z => match z with
  | .bl true => bnd (k σ) fun w => up (h' y w)
  | .bl false => ret (.bl false)
  | _ => bad
section
variable {X : Cx} {a b c : Expr} {f g k : Env → M D} {pos : Pos} {op op' : CmpOp} {h h' : F2}
theorem chain_reads (ho : OpR X (compareOp op) (rF2 X.K h)) (ho' : OpR X (compareOp op') (rF2 X.K h')) (ha : QE X a f) (hb : QE X b g) (hc : QE X c k) {W : WX} (tk : Takes X W) {m : List Addr} {S : Sto} {σ : Env} {σv : St} {H : Hp} {P : D → Sto → List Addr → Hp → Prop} (rs : RS X.K m S H) (re : RE X.K m H σ σv)
    (p : PostG X.K X.mg m H (eChain h h' f g k σ S) P (fun c d H' => W c d σv H')) : tChain (rF2 X.K h) (rF2 X.K h') (wE X a) (wE X b) (wE X c) σv H (GV X.K m H P) := by
  refine (ha.run W tk m S σ σv H _ rs re p.bnd).mono ?_
  rintro x H1 ⟨d1, S1, m1, rs1, r1, x1, q1⟩
  refine (hb.run W tk m1 S1 σ σv H1 _ rs1 (re.mono x1) q1.bnd).mono ?_
  rintro y H2 ⟨d2, S2, m2, rs2, r2, x2, q2⟩
  obtain ⟨d, S', e, q⟩ := q2.bnd.up
  refine ⟨m2, S2, d1, d2, d, S', rs2, RD.mono x2 _ _ r1, r2, e, fun m3 H3 v x3 rs3 rv => ?_⟩
  have q3 := q m3 H3 x3 rs3
  cases d with
  | bl kk =>
    simp only [RD] at rv
    refine ⟨kk, rv, ?_⟩
    cases kk with
    | true =>
      refine iteT ?_
      refine (hc.run W tk m3 S' σ σv H3 _ rs3 (((re.mono x1).mono x2).mono x3) q3.bnd).mono ?_
      rintro w H4 ⟨d4, S4, m4, rs4, r4, x4, q4⟩
      obtain ⟨d5, S5, e5, q5⟩ := q4.up
      exact ⟨m4, S4, d2, d4, d5, S5, rs4, RD.mono (x3.trans x4) _ _ r2, r4, e5, fun m' H' v x' rs' rv => ⟨d5, S5, m', rs', rv, (((x1.trans x2).trans x3).trans x4).trans x', q5 m' H' x' rs'⟩⟩
    | false => exact iteF ⟨.bl false, S', m3, rs3, by simp only [RD], (x1.trans x2).trans x3, q3 m3 H3 (.refl _ _) rs3⟩
  | _ => exact q3.elim
theorem q_chain (ho : OpR X (compareOp op) (rF2 X.K h)) (ho' : OpR X (compareOp op') (rF2 X.K h')) (ha : QE X a f) (hb : QE X b g) (hc : QE X c k) (hm : lastMarks [op, op'] [b, c] = false) : QE X (.Compare a [op, op'] [b, c] pos) (eChain h h' f g k) := ⟨fun W tk m S σ σv H P rs re p =>
  wE.of (pe_chain ho ho' (pw a) (pw b) (pw c) hm) (chain_reads ho ho' ha hb hc tk rs re p)⟩
end

/-! ### calls of the text's own defs -/
abbrev Orc := Nat → List D → M D
def eCall (c : Orc) (i : Nat) (g : Env → M (List D)) : Env → M D := fun σ => bnd (g σ) fun ds => c i ds
/-- a def's promise by the evaluator -/
def spZ (K : PySem.W.Frag) (mg : Str → Option Value) (n : Nat) (c : List D → M D) : Sp := fun vs H Q E => ∃ m S ds, vs.length = n ∧ RS K m S H ∧ RDs K m H ds vs ∧ PostG K mg m H (c ds S) (fun d S' m' H' => ∀ v, RD K m' H' d v → Q v H') E
def Ary (n : Nat) (c : List D → M D) : Prop := ∀ ds S, ds.length ≠ n → c ds S = .bad
theorem spZ_of {K : PySem.W.Frag} {mg : Str → Option Value} {n : Nat} {c : List D → M D} (hc : Ary n c) {m0 m : List Addr} {H0 H : Hp} {S : Sto} {ds : List D} {vs : List V} {P : D → Sto → List Addr → Hp → Prop} {E : XK} (rs : RS K m S H) (r : RDs K m H ds vs) (x : Ext m0 H0 m H)
    (p : PostG K mg m H (c ds S) P E) : spZ K mg n c vs H (GV K m0 H0 P) E := by
  by_cases hl : ds.length = n
  · refine ⟨m, S, ds, by rw [← r.length]; exact hl, rs, r, ?_⟩
    cases e : c ds S with
    | ok d S' =>
      rw [e] at p
      exact fun m' H' x' rs' v rv => ⟨d, S', m', rs', rv, x.trans x', p m' H' x' rs'⟩
    | exc y S' =>
      rw [e] at p
      exact p
    | bad =>
      rw [e] at p
      exact p
  · rw [hc ds S hl] at p
    exact p.elim
section
variable {X : Cx} {k : Nat} {fa : Addr} {fd : FuncData} {ps : List Str} {x : Str} {p pos : Pos} {e : Expr} {es : List Expr} {g : Env → M (List D)} {c : Orc} {i : Nat}
/-- what is known of a def: where it stands, its promise -/
structure Kn (P : Program) (w : World) (K : PySem.W.Frag) (mg : Str → Option Value) (base : Heap) (k : Nat) (x : Str) (n : Nat) (c : List D → M D) : Prop where
  ex : ∃ fa fd ps, ps.length = n ∧ FnOk P w K mg base (L2.CX P w) k fa fd ps (spZ K mg n c) ∧ mg x = some (.ref fa) ∧ PySem.W.keepIn K (.ref fa) = true ∧ Binds K fd ps []
  ary : Ary n c
theorem q_call {n : Nat} (F : Kn X.prog X.w X.K X.mg X.base k x n (c i)) (hr : Room k X.A) (ha : QA X (e :: es) g)
    (hg : glB X.env.scope x = true := by kernel_rfl) (he : PySem.W.isStarred e = false := by rfl) (hpl : es.any PySem.W.isStarred = false := by rfl) : QE X (.Call (.Name x p) (e :: es) [] pos) (eCall c i g) := ⟨fun W tk m S σ σv H P rs re q => by
  obtain ⟨fa, fd, ps, hl, F1, hm, hk, hb⟩ := F.ex
  refine wE.of (pe_callSD (E := fun σ c d H' => W c d σ H') F1 hr (glB_ok hg).1 hm hk hb .nil (fun σ => passAt tk σ) (paw (e :: es)) (glB_ok hg).2.1 (star1 he) (star2 hpl)) ?_
  intro pos' pins' s' I'
  refine thn (ha.run W tk m S σ σv H _ rs re q.bnd pos' pins' s' I') ?_
  rintro us s2 ⟨vs, H2, I2, rv, ds, S2, m2, rs2, r2, x2, q2⟩
  refine ⟨vs, H2, I2, rv, ?_⟩
  show spZ X.K X.mg n (c i) (vs ++ []) H2 (GV X.K m H P) (fun c d H' => W c d σv H')
  rw [List.append_nil]
  exact spZ_of F.ary rs2 r2 x2 q2⟩
theorem q_call0 {n : Nat} (F : Kn X.prog X.w X.K X.mg X.base k x n (c i)) (hr : Room k X.A)
    (hg : glB X.env.scope x = true := by kernel_rfl) : QE X (.Call (.Name x p) [] [] pos) (eCall c i aNil) := ⟨fun W tk m S σ σv H P rs re q => by
  obtain ⟨fa, fd, ps, hl, F1, hm, hk, hb⟩ := F.ex
  intro pins s I
  refine wpAny_Call_Name_kw (ld_glob I (glB_ok hg).1 hm ?_ (glB_ok hg).2.1)
  have q2 := q.bnd m H (.refl _ _) rs
  exact PySem.W.callWith_K0 I.kIn hk (run_fnSD (E := fun σ c d H' => W c d σ H') (us := []) F1 hr hb .nil (passAt tk σv) I .nil (spZ_of (ds := []) (vs := []) F.ary rs (by simp only [RDs]) (.refl _ _) q2))⟩
end
end L2.Z

set_option Elab.async false
set_option linter.all false
set_option maxRecDepth 100000
set_option maxHeartbeats 4000000
/-! Z4: statements, targets, loops. -/
namespace L2.Z
open PySem PySem.Spec PyProof.Rows
variable [HasT]

inductive Fl where
  | nx | bk | ct | rt (d : D) | xc (x : Xc)
abbrev Sm := Env → M (Fl × Env)

def PostS (K : PySem.W.Frag) (mg : Str → Option Value) (m : List Addr) (H : Hp) (r : Res (Fl × Env)) (Dn : Ends) (W : WX) : Prop := match r with
  | .ok (.nx, σ') S' => ∀ m' H' σv', Ext m H m' H' → RS K m' S' H' → RE K m' H' σ' σv' → Dn.nx σv' H'
  | .ok (.bk, σ') S' => ∀ m' H' σv', Ext m H m' H' → RS K m' S' H' → RE K m' H' σ' σv' → Dn.bk σv' H'
  | .ok (.ct, σ') S' => ∀ m' H' σv', Ext m H m' H' → RS K m' S' H' → RE K m' H' σ' σv' → Dn.ct σv' H'
  | .ok (.rt d, _) S' => ∀ m' H' v, Ext m H m' H' → RS K m' S' H' → RD K m' H' d v → Dn.rt v H'
  | .ok (.xc x, σ') S' => ∀ m' H' σv' c d, Ext m H m' H' → RS K m' S' H' → RE K m' H' σ' σv' → RX K m' H' mg x c d → W c d σv' H'
  | .exc _ _ => False
  | .bad => False
theorem PostS.ext {K : PySem.W.Frag} {mg : Str → Option Value} {m m1 : List Addr} {H H1 : Hp} {r : Res (Fl × Env)} {Dn : Ends} {W : WX} (h : PostS K mg m H r Dn W) (x : Ext m H m1 H1) : PostS K mg m1 H1 r Dn W := by
  cases r with
  | exc _ _ => exact h
  | bad => exact h
  | ok p S =>
    obtain ⟨fl, σ⟩ := p
    cases fl with
    | nx => exact fun m' H' σv' y rs re => h m' H' σv' (x.trans y) rs re
    | bk => exact fun m' H' σv' y rs re => h m' H' σv' (x.trans y) rs re
    | ct => exact fun m' H' σv' y rs re => h m' H' σv' (x.trans y) rs re
    | rt d => exact fun m' H' v y rs rd => h m' H' v (x.trans y) rs rd
    | xc d => exact fun m' H' σv' c dd y rs re rx => h m' H' σv' c dd (x.trans y) rs re rx

def wS (X : Cx) (st : Stmt) (Dn : Ends) (σ : St) (H : Hp) : Prop := ∀ pins s, Inv X pins σ H s → wpAny (model X.prog X.w) X.A (exec st X.env) (SP X pins Dn) X.xe s
def wSs (X : Cx) (st : List Stmt) (Dn : Ends) (σ : St) (H : Hp) : Prop := ∀ pins s, Inv X pins σ H s → wpAny (model X.prog X.w) X.A (execs st X.env) (SP X pins Dn) X.xe s
theorem psw {X : Cx} (st : Stmt) : PS X st (wS X st) := ⟨fun pins s σ H D I h => h pins s I⟩
theorem pssw {X : Cx} (st : List Stmt) : PSs X st (wSs X st) := ⟨fun pins s σ H D I h => h pins s I⟩
theorem wS.of {X : Cx} {st : Stmt} {t : TS} (h : PS X st t) {Dn : Ends} {σ : St} {H : Hp} (q : t Dn σ H) : wS X st Dn σ H := fun pins s I => h.run pins s σ H Dn I q
theorem wSs.of {X : Cx} {st : List Stmt} {t : TS} (h : PSs X st t) {Dn : Ends} {σ : St} {H : Hp} (q : t Dn σ H) : wSs X st Dn σ H := fun pins s I => h.run pins s σ H Dn I q

structure QS (X : Cx) (st : Stmt) (g : Sm) : Prop where
  run : ∀ (W : WX), Takes X W → ∀ (m : List Addr) (S : Sto) (σ : Env) (σv : St) (H : Hp) (Dn : Ends), RS X.K m S H → RE X.K m H σ σv → PostS X.K X.mg m H (g σ S) Dn W → wS X st Dn σv H
structure QSs (X : Cx) (st : List Stmt) (g : Sm) : Prop where
  run : ∀ (W : WX), Takes X W → ∀ (m : List Addr) (S : Sto) (σ : Env) (σv : St) (H : Hp) (Dn : Ends), RS X.K m S H → RE X.K m H σ σv → PostS X.K X.mg m H (g σ S) Dn W → wSs X st Dn σv H

def sNil : Sm := fun σ => ret (.nx, σ)
def sSeq (g1 g2 : Sm) : Sm := fun σ S => match g1 σ S with
  | .ok (.nx, σ') S' => g2 σ' S'
  | r => r
/-- an expression's value, then what follows; an exception is noted with the names as they stand -/
def sE {α : Type} (f : M α) (σ : Env) (k : α → M (Fl × Env)) : M (Fl × Env) := fun S => match f S with
  | .ok a S' => k a S'
  | .exc x S' => .ok (.xc x, σ) S'
  | .bad => .bad
theorem PostS.sE {α : Type} {K : PySem.W.Frag} {mg : Str → Option Value} {m : List Addr} {H : Hp} {f : M α} {σ : Env} {σv : St} {k : α → M (Fl × Env)} {S : Sto} {Dn : Ends} {W : WX} (re : RE K m H σ σv) (h : PostS K mg m H (Z.sE f σ k S) Dn W) :
    PostG K mg m H (f S) (fun a S1 m1 H1 => PostS K mg m1 H1 (k a S1) Dn W) (fun c d H' => W c d σv H') := by
  unfold Z.sE at h
  cases e : f S with
  | ok a S1 => rw [e] at h; exact fun m' H' x rs => PostS.ext h x
  | exc a S1 => rw [e] at h; exact fun m' H' c d x rs rx => h m' H' σv c d x rs (re.mono x) rx
  | bad => rw [e] at h; exact h
def sDrop (f : Env → M D) : Sm := fun σ => sE (f σ) σ fun _ => ret (.nx, σ)
def sRet (f : Env → M D) : Sm := fun σ => sE (f σ) σ fun d => ret (.rt d, σ)
def sRetN : Sm := fun σ => ret (.rt .non, σ)
def sIf (t : Env → M Bool) (a b : Sm) : Sm := fun σ => sE (t σ) σ fun c => match c with
  | true => a σ
  | false => b σ
def sSet (i : Nat) (f : Env → M D) : Sm := fun σ => sE (f σ) σ fun d => ret (.nx, σ.set i (some d))
section
variable {X : Cx} {st : Stmt} {rest : List Stmt} {g h : Sm} {e : Expr} {f : Env → M D} {pos : Pos}
theorem qss_nil : QSs X [] sNil := ⟨fun W tk m S σ σv H Dn rs re p => wSs.of pss_nil (p m H σv (.refl _ _) rs re)⟩
theorem qss_cons (h1 : QS X st g) (h2 : QSs X rest h) : QSs X (st :: rest) (sSeq g h) := ⟨fun W tk m S σ σv H Dn rs re p => by
  refine wSs.of (pss_cons (psw st) (pssw rest)) ?_
  refine h1.run W tk m S σ σv H _ rs re ?_
  unfold sSeq at p
  cases e : g σ S with
  | ok q S1 =>
    obtain ⟨fl, σ1⟩ := q
    rw [e] at p
    cases fl with
    | nx => exact fun m' H' σv' x rs' re' => h2.run W tk m' S1 σ1 σv' H' Dn rs' re' (PostS.ext p x)
    | bk => exact p
    | ct => exact p
    | rt d => exact p
    | xc d => exact p
  | exc _ _ => rw [e] at p; exact p
  | bad => rw [e] at p; exact p⟩
theorem qss_one (h1 : QS X st g) : QSs X [st] g := ⟨fun W tk m S σ σv H Dn rs re p => wSs.of (pss_one (psw st)) (h1.run W tk m S σ σv H Dn rs re p)⟩
theorem qs_pass : QS X (.Pass pos) sNil := ⟨fun W tk m S σ σv H Dn rs re p => wS.of ps_pass (p m H σv (.refl _ _) rs re)⟩
theorem qs_expr (he : QE X e f) (hs : swapsWith e none pos.line X.env = pure false := by rfl) : QS X (.Expr e pos) (sDrop f) := ⟨fun W tk m S σ σv H Dn rs re p => by
  refine wS.of (ps_expr (pw e) hs) ?_
  refine (he.run W tk m S σ σv H _ rs re (PostS.sE re p)).mono ?_
  rintro v H1 ⟨d, S1, m1, rs1, r1, x1, q1⟩
  exact q1 m1 H1 σv (.refl _ _) rs1 (re.mono x1)⟩
theorem qs_ret (he : QE X e f) : QS X (.Return (some e) pos) (sRet f) := ⟨fun W tk m S σ σv H Dn rs re p => by
  refine wS.of (ps_ret (pw e)) ?_
  refine (he.run W tk m S σ σv H _ rs re (PostS.sE re p)).mono ?_
  rintro v H1 ⟨d, S1, m1, rs1, r1, x1, q1⟩
  exact q1 m1 H1 v (.refl _ _) rs1 r1⟩
theorem qs_retN : QS X (.Return none pos) sRetN := ⟨fun W tk m S σ σv H Dn rs re p => wS.of ps_retN (p m H .non (.refl _ _) rs (by simp only [RD]))⟩
theorem qs_if {c : Expr} {a b : List Stmt} {t : Env → M Bool} (hc : QT X c t) (ha : QSs X a g) (hb : QSs X b h) : QS X (.If c a b pos) (sIf t g h) := ⟨fun W tk m S σ σv H Dn rs re p => by
  refine wS.of (ps_if (ptw c) (pssw a) (pssw b)) ?_
  refine (hc.run W tk m S σ σv H _ rs re (PostS.sE re p)).mono ?_
  rintro k H1 ⟨S1, m1, rs1, x1, q1⟩
  cases k with
  | true => exact iteT (ha.run W tk m1 S1 σ σv H1 Dn rs1 (re.mono x1) q1)
  | false => exact iteF (hb.run W tk m1 S1 σ σv H1 Dn rs1 (re.mono x1) q1)⟩
theorem qs_set (i : Nat) {x : Str} {pos' : Pos} (hN : X.N.Nodup) (he : QE X e f) (hi : X.N[i]? = some x := by kernel_rfl) (hx : locB X.env.scope x = true := by kernel_rfl) (hs : swapsWith e (some (.Name x pos')) pos.line X.env = pure false := by rfl)
    (hf : (X.fn x || lclB X.env.scope x) = true := by kernel_rfl) : QS X (.Assign [.Name x pos'] e pos) (sSet i f) := ⟨fun W tk m S σ σv H Dn rs re p => by
  refine wS.of (ps_set hN hi (locB_ok hx) (pw e) hs (fnB_ok hf)) ?_
  refine (he.run W tk m S σ σv H _ rs re (PostS.sE re p)).mono ?_
  rintro v H1 ⟨d, S1, m1, rs1, r1, x1, q1⟩
  exact q1 m1 H1 _ (.refl _ _) rs1 ((re.mono x1).set r1 i)⟩
end

/-! ### targets -/
def wG (X : Cx) (tg : Expr) (v : V) (σ : St) (H : Hp) (Q : St → Hp → Prop) : Prop := ∀ pins s u, Inv X pins σ H s → RelV v u → wpAny (model X.prog X.w) X.A (assign tg X.env u) (fun _ s' => ∃ σ' H', Inv X pins σ' H' s' ∧ Q σ' H') X.xe s
theorem pgw {X : Cx} (tg : Expr) : PG X tg (wG X tg) := ⟨fun pins s σ H v u Q I r h => h pins s u I r⟩
theorem wG.of {X : Cx} {tg : Expr} {t : TG} (h : PG X tg t) {v : V} {σ : St} {H : Hp} {Q : St → Hp → Prop} (q : t v σ H Q) : wG X tg v σ H Q := fun pins s u I r => h.run pins s σ H v u Q I r q
def wGs (X : Cx) (tg : List Expr) (vs : List V) (σ : St) (H : Hp) (Q : St → Hp → Prop) : Prop := ∀ pins s us, Inv X pins σ H s → Vals vs us → wpAny (model X.prog X.w) X.A (assignInOrder ((assignEach tg X.env).map (·.2)) us) (fun _ s' => ∃ σ' H', Inv X pins σ' H' s' ∧ Q σ' H') X.xe s
theorem pgsw {X : Cx} (tg : List Expr) : PGs X tg (wGs X tg) := ⟨fun pins s σ H vs us Q I r h => h pins s us I r⟩
theorem wGs.of {X : Cx} {tg : List Expr} {t : TGs} (h : PGs X tg t) {vs : List V} {σ : St} {H : Hp} {Q : St → Hp → Prop} (q : t vs σ H Q) : wGs X tg vs σ H Q := fun pins s us I r => h.run pins s σ H vs us Q I r q
/-- slots outside of vs stand -/
def OnlyS (vs : List Nat) (σ σ' : St) : Prop := σ.length = σ'.length ∧ ∀ i, i ∉ vs → σ'[i]? = σ[i]?
/-- a target: what it makes of the names (no store changes) -/
abbrev Tg := D → Env → Option Env
abbrev Tgs := List D → Env → Option Env
structure QG (X : Cx) (tg : Expr) (vs : List Nat) (t : Tg) : Prop where
  run : ∀ (m : List Addr) (S : Sto) (σ σ' : Env) (σv : St) (H : Hp) (d : D) (v : V) (Q : St → Hp → Prop), RS X.K m S H → RE X.K m H σ σv → RD X.K m H d v → t d σ = some σ' → (∀ σv', RE X.K m H σ' σv' → OnlyS vs σv σv' → Q σv' H) → wG X tg v σv H Q
structure QGs (X : Cx) (tg : List Expr) (vs : List Nat) (t : Tgs) : Prop where
  run : ∀ (m : List Addr) (S : Sto) (σ σ' : Env) (σv : St) (H : Hp) (ds : List D) (ws : List V) (Q : St → Hp → Prop), RS X.K m S H → RE X.K m H σ σv → RDs X.K m H ds ws → t ds σ = some σ' → (∀ σv', RE X.K m H σ' σv' → OnlyS vs σv σv' → Q σv' H) → wGs X tg ws σv H Q
def gN (i : Nat) : Tg := fun d σ => some (σ.set i (some d))
def gNil' : Tgs := fun ds σ => match ds with
  | [] => some σ
  | _ => none
def gCons' (t : Tg) (u : Tgs) : Tgs := fun ds σ => match ds with
  | d :: r => (t d σ).bind (u r)
  | [] => none
def gT (t : Tgs) : Tg := fun d σ => match d with
  | .tup ds => t ds σ
  | _ => none
theorem OnlyS.refl (vs : List Nat) (σ : St) : OnlyS vs σ σ := ⟨rfl, fun _ _ => rfl⟩
theorem OnlyS.trans {vs ws : List Nat} {σ σ1 σ2 : St} (a : OnlyS vs σ σ1) (b : OnlyS ws σ1 σ2) : OnlyS (vs ++ ws) σ σ2 := ⟨a.1.trans b.1, fun i hi => by
  rw [List.mem_append, not_or] at hi
  rw [b.2 i hi.2, a.2 i hi.1]⟩
theorem OnlyS.set (σ : St) (i : Nat) (v : Option V) : OnlyS [i] σ (σ.set i v) := ⟨by simp, fun j hj => by
  rw [List.getElem?_set_ne]
  intro z; subst z; exact hj (by simp)⟩
section
variable {X : Cx} {pos : Pos}
theorem qg_name (i : Nat) {x : Str} (hN : X.N.Nodup) (hi : X.N[i]? = some x := by kernel_rfl) (hx : locB X.env.scope x = true := by kernel_rfl) (hf : (X.fn x || lclB X.env.scope x) = true := by kernel_rfl) : QG X (.Name x pos) [i] (gN i) := by
  constructor
  intro m S σ σ' σv H d v Q rs re r e q
  cases e
  exact wG.of (pg_name hN hi (locB_ok hx) (fnB_ok hf)) (q _ (re.set r i) (OnlyS.set _ _ _))
theorem qgs_nil : QGs X [] [] gNil' := by
  constructor
  intro m S σ σ' σv H ds ws Q rs re r e q
  cases ds with
  | nil =>
    cases e
    simp only [RDs] at r
    exact wGs.of pgs_nil ⟨r, q _ re (.refl _ _)⟩
  | cons d ds => cases e
theorem qgs_cons {e : Expr} {es : List Expr} {vs ws : List Nat} {t : Tg} {u : Tgs} (h1 : QG X e vs t) (h2 : QGs X es ws u)
    (hs : (assignEach (e :: es) X.env).map (·.2) = assign e X.env :: (assignEach es X.env).map (·.2) := by rfl) : QGs X (e :: es) (vs ++ ws) (gCons' t u) := by
  constructor
  intro m S σ σ' σv H ds vv Q rs re r e' q
  cases ds with
  | nil => cases e'
  | cons d ds =>
    simp only [RDs] at r
    obtain ⟨v, r', rfl, rd, rr⟩ := r
    have e2 : (t d σ).bind (u ds) = some σ' := e'
    cases e1 : t d σ with
    | none => rw [e1] at e2; cases e2
    | some σ1 =>
      rw [e1] at e2
      refine wGs.of (pgs_cons (pgw e) (pgsw es) hs) ⟨v, r', rfl, ?_⟩
      refine h1.run m S σ σ1 σv H d v _ rs re rd e1 fun σv1 re1 o1 => ?_
      exact h2.run m S σ1 σ' σv1 H ds r' _ rs re1 rr e2 fun σv2 re2 o2 => q _ re2 (o1.trans o2)
theorem qg_tup {es : List Expr} {k : Nat} {vs : List Nat} {t : Tgs} (hc : X.calm = true) (h : QGs X es vs t) (hl : ∀ ds σ σ', t ds σ = some σ' → ds.length = (assignEach es X.env).length) (hst : (assignEach es X.env).findIdx? (·.1) = none := by rfl) : QG X (.Tuple es k pos) vs (gT t) := by
  constructor
  intro m S σ σ' σv H d v Q rs re r e q
  cases d with
  | tup ds =>
    simp only [RD] at r
    obtain ⟨a, ws, rfl, hq, rr⟩ := r
    refine wG.of (pg_tup hc (pgsw es) rfl hst) ⟨a, ws, rfl, hq, ?_, ?_⟩
    · rw [← rr.length]; exact hl ds σ σ' e
    · exact h.run m S σ σ' σv H ds ws Q rs re rr e q
  | _ => cases e
end
def sUn (t : Tg) (f : Env → M D) : Sm := fun σ => sE (f σ) σ fun d => match t d σ with
  | some σ' => ret (.nx, σ')
  | none => bad
section
variable {X : Cx} {tg e : Expr} {f : Env → M D} {pos : Pos} {vs : List Nat} {t : Tg}
/-- target = value -/
theorem qs_asg (he : QE X e f) (hg : QG X tg vs t) (hs : swapsWithSole [tg] e pos.line X.env = pure false := by rfl) (hw : swappedStores [tg] e X.env = pure none := by kernel_rfl)
    (h1 : (assignEach [tg] X.env).map (·.2) = [assign tg X.env] := by rfl) : QS X (.Assign [tg] e pos) (sUn t f) := ⟨fun W tk m S σ σv H Dn rs re p => by
  refine wS.of (ps_asg (pw e) (pgw tg) hs hw h1) ?_
  refine (he.run W tk m S σ σv H _ rs re (PostS.sE re p)).mono ?_
  rintro v H1 ⟨d, S1, m1, rs1, r1, x1, q1⟩
  cases e' : t d σ with
  | none => rw [e'] at q1; exact q1.elim
  | some σ' =>
    rw [e'] at q1
    exact hg.run m1 S1 σ σ' σv H1 d v _ rs1 (re.mono x1) r1 e' fun σv' re' _ => q1 m1 H1 σv' (.refl _ _) rs1 re'⟩
end
/-- a, b = x, y: plain local names -/
def sPar (i j : Nat) (g : Env → M (List D)) : Sm := fun σ => sE (g σ) σ fun ds => match ds with
  | [a, b] => ret (.nx, (σ.set i (some a)).set j (some b))
  | _ => bad
section
variable {X : Cx} {pos : Pos}
theorem qs_par (i j : Nat) {x y : Str} {a b : Expr} {g : Env → M (List D)} {px py pt : Pos} {kt k2 pt2} (hc : X.calm = true) (hN : X.N.Nodup) (ha : QA X [a, b] g)
    (hi : X.N[i]? = some x := by kernel_rfl) (hj : X.N[j]? = some y := by kernel_rfl) (hij : i ≠ j := by decide)
    (hx : X.env.scope.names.lookup x = some .local := by kernel_rfl) (hy : X.env.scope.names.lookup y = some .local := by kernel_rfl)
    (hw : swappedStores [.Tuple [.Name x px, .Name y py] kt pt] (.Tuple [a, b] k2 pt2) X.env = pure (some [x, y]) := by kernel_rfl)
    (hs : swapsWithSole [.Tuple [.Name x px, .Name y py] kt pt] (.Tuple [a, b] k2 pt2) pos.line X.env = pure false := by rfl) :
    QS X (.Assign [.Tuple [.Name x px, .Name y py] kt pt] (.Tuple [a, b] k2 pt2) pos) (sPar i j g) := ⟨fun W tk m S σ σv H Dn rs re p => by
  refine wS.of (ps_par hc hN hi hj hij hx hy (paw [a, b]) hw hs) ?_
  intro pos' pins' s' I'
  refine thn (ha.run W tk m S σ σv H _ rs re (PostS.sE re p) pos' pins' s' I') ?_
  rintro us s2 ⟨vs, H2, I2, rv, ds, S2, m2, rs2, r2, x2, q2⟩
  refine ⟨vs, H2, I2, rv, ?_⟩
  match ds, r2, q2 with
  | [d1, d2], r2, q2 =>
    simp only [RDs] at r2
    obtain ⟨v, r, rfl, rd, w, r', rfl, rd', rfl⟩ := r2
    exact ⟨v, w, rfl, q2 m2 H2 _ (.refl _ _) rs2 (((re.mono x2).set rd i).set rd' j)⟩
  | [], _, q2 => exact q2.elim
  | [_], _, q2 => exact q2.elim
  | _ :: _ :: _ :: _, _, q2 => exact q2.elim⟩
end
end L2.Z

set_option Elab.async false
set_option linter.all false
set_option maxRecDepth 100000
set_option maxHeartbeats 4000000
/-! ZI: enumerate of a tuple, from a count on. -/
namespace L2.Z
open PySem PySem.Spec PyProof.Rows
variable [HasT]

theorem enumT_meets (l : Addr) (items : Array Value) :
    Meets (Builtin.«enumerate.__new__» ⟨[.type "enumerate", .ref l], []⟩) (fun _ R s => s.heap.IsTuple l items ∧
      R (.ok (.ret (.ref (s.heap.push { cls := .type "tuple_iterator", data := .fields #[.ref l, .int 0 0] }).objs.size)))
        { s with heap := (s.heap.push { cls := .type "tuple_iterator", data := .fields #[.ref l, .int 0 0] }).push { cls := .type "enumerate", data := .fields #[.none, .bool false, .ref s.heap.objs.size, rawInt 0, .none, .none] } }) :=
  .of_wp fun prog w A R s h => by
    obtain ⟨hp, g, d, tk, os⟩ := s; obtain ⟨hL, h⟩ := h
    have hsub := sub_enumerate
    obtain ⟨ob, hl, hcl, hn, hdt⟩ := id hL
    wp_walk using AutoSeq1.wpAny_loadPart' hl
    refine wpAny_stack_any fun st => wpAny_pure ?_
    split
    · rename_i c _ _ _ _ _
      cases (c == Value.type "enumerate")
      · wp_walk using AutoSeq1.wpAny_loadPart' hl, wpAny_pyIter_tuple hL
        exact ⟨_, rfl, h⟩
      · wp_walk using AutoSeq1.wpAny_loadPart' hl, wpAny_pyIter_tuple hL
        exact ⟨_, rfl, h⟩
    · wp_walk using AutoSeq1.wpAny_loadPart' hl, wpAny_pyIter_tuple hL
      exact ⟨_, rfl, h⟩

section
variable {prog : Program} {w : World} {A : Around} {E : Value → Shared → Prop} {s : Shared}
theorem enumT_call {l : Addr} {items : Array Value} {Q : Value → Shared → Prop} (hL : s.heap.IsTuple l items)
    (h : ∀ h', IsEnum h' (s.heap.objs.size + 1) s.heap.objs.size 0 .none → h'.IsTupleIter s.heap.objs.size l 0 →
      (∀ b o, s.heap.get? b = some o → h'.get? b = some o) → Q (.ref (s.heap.objs.size + 1)) { s with heap := h' }) :
    wpAny (model prog w) A (call (.type "enumerate") [.ref l]) Q E s := by
  refine callType_new F.called_enumerate (by decide) (F.typeCall_enumerate_1 _) (F.newCall_enumerate_1 _) (fun obj => F.args_object_init_2 obj _) F.entry_enumerate_new (enumT_meets l items) ⟨hL, ?_⟩
  generalize ho : ({ cls := .type "tuple_iterator", data := .fields #[.ref l, .int 0 0] } : Obj) = o1
  have hz : (s.heap.push o1).objs.size = s.heap.objs.size + 1 := Heap.size_push ..
  show _ ∧ _
  rw [hz]
  have he : IsEnum ((s.heap.push o1).push { cls := .type "enumerate", data := .fields #[.none, .bool false, .ref s.heap.objs.size, rawInt 0, .none, .none] }) (s.heap.objs.size + 1) s.heap.objs.size 0 .none := by
    have q := Heap.get?_push_size (s.heap.push o1) (o := { cls := .type "enumerate", data := .fields #[.none, .bool false, .ref s.heap.objs.size, rawInt 0, .none, .none] }) rfl
    rw [hz] at q; exact q
  refine ⟨⟨_, he, rfl⟩, h _ he ⟨o1, Heap.get?_push_of_some _ (Heap.get?_push_size _ (by rw [← ho]; rfl)), by rw [← ho], by rw [← ho]; rfl⟩ fun b o y => Heap.get?_push_of_some _ (Heap.get?_push_of_some _ y)⟩
end

/-- the tuple at a, each item in a new pair with its number from k on -/
def IteT (K : PySem.W.Frag) (a : Addr) (k : Int) : It :=
  ⟨fun i H => ∃ (xs : List V) (x : V), SqT K H a xs ∧ xs[i]? = some x, fun i H v H' => ∃ T x, v = .ref T ∧ H T = none ∧ H' = upd H T (.tup [.int (k + (i : Nat)), x]) ∧ ∀ xs, SqT K H a xs → xs[i]? = some x, fun i H => ∃ xs : List V, SqT K H a xs ∧ xs.length ≤ i⟩
theorem turn_enumT {P : Program} {w : World} {K : PySem.W.Frag} {elts : List Expr} {kk : Nat} {tpos : Pos} (a e it : Addr) (k : Int) (hea : e ≠ a) (hia : it ≠ a) :
    Turn P w K (.Tuple elts kk tpos) (IteT K a k) [e, it] e (fun i h => (∃ old, IsEnum h e it (k + ((i : Nat) : Int)) old) ∧ h.IsTupleIter it a i ∧ e ≠ it) where
  mem := by simp
  obj := fun i h st b hb => by
    obtain ⟨⟨old, he⟩, ⟨o, ho, _, hd⟩, _⟩ := st
    rcases List.mem_cons.mp hb with z | z
    · rw [z]; exact ⟨_, he, fun v q => nomatch q⟩
    · rw [List.mem_singleton.mp z]; exact ⟨o, ho, fun v q => by rw [hd] at q; cases q⟩
  keep := fun i h h' st kp => by
    obtain ⟨⟨old, he⟩, hi, hne⟩ := st
    exact ⟨⟨old, kp e (by simp) _ he⟩, hi.at fun o q => kp it (by simp) o q, hne⟩
  item := by
    intro X hP hw hK hc i pins s σ H E I hf st hg
    subst hP hw hK
    obtain ⟨⟨old, he⟩, hit, hne⟩ := st
    obtain ⟨xs, x, hq, hx⟩ := hg
    obtain ⟨its, rv, p, _⟩ := I.tuple hq
    obtain ⟨u, hu, ru⟩ := rv.get hx
    have hel : e < s.heap.objs.size := Heap.lt_size he
    have hil : it < s.heap.objs.size := by obtain ⟨_, q, _⟩ := hit; exact Heap.lt_size q
    have hlt : i < its.toArray.size := by
      have := List.getElem?_eq_some_iff.mp hu
      obtain ⟨z, _⟩ := this
      simpa using z
    refine wpAny_pyNext_enum_itemC (Draws.tuple (A := X.A.in1) (I.ok.hd hc) it a (Ne.symm hia) its.toArray) he (i := i) ⟨hit, p⟩ hlt hne (by simp [hne, hea]) fun x' h' tk hP ho hst' hT hsz hk => ?_
    have hx' : x' = u := by
      have z : its.toArray[i]? = some u := by simpa using hu
      rw [z] at hP; exact (Option.some.inj hP).symm
    subst hx'
    refine ⟨_, rfl, wpAny_letOwnedTupleGo_enum (s := { s with heap := h', toks := tk + 1 }) ho fun h'' he' sb => ?_⟩
    have hT2 := (sb.2 _ (Nat.ne_of_gt hel)).trans hT
    have new : ObjOk X.prog X.w (upd H s.heap.objs.size (.tup [.int (k + (i : Nat)), x])) h'' s.heap.objs.size (.tup [.int (k + (i : Nat)), x]) :=
      ⟨by show 2 ≤ sizeLine; decide, [.int (k + (i : Nat)) tk, x'], .cons ⟨_, rfl⟩ (.cons ru .nil), ⟨_, hT2, rfl, _, rfl⟩⟩
    have I1 : Inv X pins σ (upd H s.heap.objs.size (.tup [.int (k + (i : Nat)), x])) { s with heap := h'', toks := tk + 1 } :=
      I.turnedNew (ch := [e, it]) (fun b ob hb q => (sb.2 b (fun z => hb (by simp [z]))).trans (hk b ob (fun z => hb (by simp [z])) (fun z => hb (by simp [z])) q)) hf (Nat.le_refl _) new
    refine ⟨.ref s.heap.objs.size, _, I1, rfl, ⟨_, x, rfl, I.hok.fresh (Nat.le_refl _), rfl, fun ys hy => by rw [I.tuple_inj hy hq]; exact hx⟩, ⟨⟨x', ?_⟩, hst'.1.at fun o q => (sb.2 it (Ne.symm hne)).trans q, hne⟩, fun b hb => ?_⟩
    · rw [show (k + ((i + 1 : Nat) : Int)) = k + (i : Int) + 1 by omega]; exact he'
    · have hb' : b < s.heap.objs.size := by
        rcases List.mem_cons.mp hb with z | z
        · rw [z]; exact hel
        · rw [List.mem_singleton.mp z]; exact hil
      rw [upd_ne (Nat.ne_of_lt hb')]
      exact (hf b hb).1
  done := by
    intro X hP hw hK hc i pins s σ H E I hf st hg
    subst hP hw hK
    obtain ⟨⟨old, he⟩, hit, hne⟩ := st
    obtain ⟨xs, hq, hx⟩ := hg
    obtain ⟨its, rv, p, _⟩ := I.tuple hq
    obtain ⟨f0, f1, f2, f3, f4, f5⟩ := hf it (by simp)
    have hl := rv.length
    have hT : s.TypeIs (.ref e) "enumerate" := ⟨_, he, rfl⟩
    unfold pyNext
    refine wpAny_bind (wpAny_attempt (wpAny_callSpecial?_slot (name := Str.ofString "__next__") hT F.slot_enumerate_next
      (wpAny_call_entry F.slot_enumerate_next hT F.entry_enumerate_next ?_ (F.args_enumerate_next_1 _))))
    show wpAny _ _ (field (.ref e) 2 >>= _) _ _ _
    refine wpAny_bind (wpAny_field he rfl (x := .ref it) rfl ?_)
    refine wpAny_bind (wpAny_nextOf_tuple_end (I.ok.hd hc) hit (show s.heap.IsTuple a its.toArray from p) (by simp; omega) fun h' x he' hx' => ?_)
    obtain ⟨o, ho, hcl⟩ := hx'
    refine wpAny_bind (wpAny_isInstance (T := "StopIteration") (b := true) ⟨o, ho, hcl⟩ isSubtype_stop ?_)
    exact wpAny_pure ⟨rfl, I.turned (t' := s.toks) (fun b o hb q => he' b o hb q) f0 f1 f3 f4 f5⟩
  self := fun A i s Q E st h => by
    obtain ⟨⟨_, he⟩, _⟩ := st
    exact wpAny_pyIter_enum he h
end L2.Z

set_option Elab.async false
set_option linter.all false
set_option maxRecDepth 100000
set_option maxHeartbeats 4000000
/-! Z5: what is walked; for, while, list comprehensions. -/
namespace L2.Z
open PySem PySem.Spec PyProof.Rows
variable [HasT]

inductive Itm where
  | fix (xs : List D) | lst (n : Nat) | enm (n : Nat) | zip (a b : Nat) | rng (lo : Int) (n : Nat)
def lstAt (S : Sto) (n : Nat) : Option (List D) := match S.get n with
  | some (.lst xs) => some xs
  | some (.fz xs) => some xs
  | _ => none
def nxt (it : Itm) (i : Nat) (S : Sto) : Option (Option D) := match it with
  | .fix xs => some xs[i]?
  | .lst n => (lstAt S n).map fun xs => xs[i]?
  | .enm n => (lstAt S n).map fun xs => xs[i]?.map fun x => .tup [.int (i : Nat), x]
  | .zip a b => (lstAt S a).bind fun xs => (lstAt S b).map fun ys => xs[i]?.bind fun x => ys[i]?.map fun y => .tup [x, y]
  | .rng lo n => match Nat.blt i n with
    | true => some (some (.int (lo + (i : Nat))))
    | false => some none
def cnt (it : Itm) (S : Sto) : Nat := match it with
  | .fix xs => xs.length + 1
  | .lst n => ((lstAt S n).getD []).length + 1
  | .enm n => ((lstAt S n).getD []).length + 1
  | .zip a _ => ((lstAt S a).getD []).length + 1
  | .rng _ n => n + 1

structure JIt (K : PySem.W.Frag) (J : It) (it : Itm) (m0 : List Addr) (H0 : Hp) : Prop where
  stop : ∀ m S H i, Ext m0 H0 m H → RS K m S H → nxt it i S = some none → J.stop i H
  go : ∀ m S H i d, Ext m0 H0 m H → RS K m S H → nxt it i S = some (some d) → J.go i H ∧ ∀ x H', J.yld i H x H' → RS K m S H' ∧ Ext m H m H' ∧ RD K m H' d x

theorem RDs.get {K : PySem.W.Frag} {m : List Addr} {H : Hp} : ∀ {ds : List D} {vs : List V} {i : Nat} {d : D}, RDs K m H ds vs → ds[i]? = some d → ∃ v, vs[i]? = some v ∧ RD K m H d v
  | [], _, _, _, _, e => by simp at e
  | d0 :: ds, vs, 0, d, h, e => by
    simp only [RDs] at h
    obtain ⟨v, r, rfl, q, _⟩ := h
    simp at e; subst e
    exact ⟨v, rfl, q⟩
  | d0 :: ds, vs, i + 1, d, h, e => by
    simp only [RDs] at h
    obtain ⟨v, r, rfl, _, t⟩ := h
    obtain ⟨w, e', q⟩ := RDs.get (i := i) t (by simpa using e)
    exact ⟨w, by simpa using e', q⟩
theorem RS.lst {K : PySem.W.Frag} {m : List Addr} {S : Sto} {H : Hp} (rs : RS K m S H) {n : Nat} {a : Addr} {xs : List D} (h : m[n]? = some a) (e : lstAt S n = some xs) : ∃ vs, SqL K H a vs ∧ RDs K m H xs vs := by
  unfold lstAt at e
  cases g : S.get n with
  | none => rw [g] at e; cases e
  | some o =>
    have ro := rs.obj h g
    rw [g] at e
    cases o with
    | lst ys => cases e; obtain ⟨vs, q, t⟩ := ro; exact ⟨vs, SqL.of q, t⟩
    | fz ys => cases e; obtain ⟨ob, vs, q, t⟩ := ro; exact ⟨vs, .inl (.inr ⟨ob, q⟩), t⟩
    | dK _ => cases e
    | dT _ => cases e
    | fd _ => cases e
theorem jit_lst {K : PySem.W.Frag} {m0 : List Addr} {H0 : Hp} {n : Nat} {a : Addr} (h : m0[n]? = some a) : JIt K (Itl K a) (.lst n) m0 H0 where
  stop := fun m S H i x rs e => by
    cases q : lstAt S n with
    | none => simp only [nxt, q] at e; cases e
    | some xs =>
      simp only [nxt, q, Option.map_some, Option.some.injEq] at e
      obtain ⟨vs, hq, t⟩ := rs.lst (pre_get x.pre h) q
      refine ⟨vs, hq, ?_⟩
      rw [← t.length]
      exact List.getElem?_eq_none_iff.mp e
  go := fun m S H i d x rs e => by
    cases q : lstAt S n with
    | none => simp only [nxt, q] at e; cases e
    | some xs =>
      simp only [nxt, q, Option.map_some, Option.some.injEq] at e
      obtain ⟨vs, hq, t⟩ := rs.lst (pre_get x.pre h) q
      obtain ⟨v, ev, rv⟩ := t.get e
      refine ⟨⟨vs, v, hq, ev⟩, fun y H' hy => ?_⟩
      obtain ⟨rfl, z⟩ := hy
      have := z vs hq
      rw [ev] at this
      have e2 : v = y := Option.some.inj this
      subst e2
      exact ⟨rs, .refl _ _, rv⟩
theorem jit_enm {K : PySem.W.Frag} {m0 : List Addr} {H0 : Hp} {n : Nat} {a : Addr} (h : m0[n]? = some a) : JIt K (Ite K a) (.enm n) m0 H0 where
  stop := fun m S H i x rs e => by
    cases q : lstAt S n with
    | none => simp only [nxt, q] at e; cases e
    | some xs =>
      simp only [nxt, q, Option.map_some, Option.some.injEq] at e
      obtain ⟨vs, hq, t⟩ := rs.lst (pre_get x.pre h) q
      refine ⟨vs, hq, ?_⟩
      rw [← t.length]
      cases z : xs[i]? with
      | none => exact List.getElem?_eq_none_iff.mp z
      | some w => rw [z] at e; cases e
  go := fun m S H i d x rs e => by
    cases q : lstAt S n with
    | none => simp only [nxt, q] at e; cases e
    | some xs =>
      simp only [nxt, q, Option.map_some, Option.some.injEq] at e
      obtain ⟨vs, hq, t⟩ := rs.lst (pre_get x.pre h) q
      cases z : xs[i]? with
      | none => rw [z] at e; cases e
      | some w =>
        rw [z] at e
        have ed : D.tup [.int (i : Nat), w] = d := Option.some.inj e
        subst ed
        obtain ⟨v, ev, rv⟩ := t.get z
        refine ⟨⟨vs, v, hq, ev⟩, fun y H' hy => ?_⟩
        obtain ⟨T, y', rfl, hT, rfl, f⟩ := hy
        have := f vs hq
        rw [ev] at this
        have e2 : v = y' := Option.some.inj this
        subst e2
        refine ⟨rs.new hT, .new hT, RD.newTup hT ?_⟩
        simp only [RDs, RD]
        exact ⟨_, _, rfl, rfl, _, _, rfl, rv, rfl⟩
theorem jit_fix {K : PySem.W.Frag} {m0 : List Addr} {H0 : Hp} {a : Addr} {xs : List D} {vs : List V} (h : SqT K H0 a vs) (r : RDs K m0 H0 xs vs) : JIt K (Itt K a) (.fix xs) m0 H0 where
  stop := fun m S H i x rs e => by
    simp only [nxt, Option.some.injEq] at e
    refine ⟨vs, x.le.sqT h, ?_⟩
    rw [← r.length]
    exact List.getElem?_eq_none_iff.mp e
  go := fun m S H i d x rs e => by
    simp only [nxt, Option.some.injEq] at e
    obtain ⟨v, ev, rv⟩ := r.get e
    refine ⟨⟨vs, v, x.le.sqT h, ev⟩, fun y H' hy => ?_⟩
    obtain ⟨rfl, z⟩ := hy
    have := z vs (x.le.sqT h)
    rw [ev] at this
    have e2 : v = y := Option.some.inj this
    subst e2
    exact ⟨rs, .refl _ _, RD.mono x _ _ rv⟩
theorem enumD_get (xs : List D) (k : Int) (i : Nat) : (xs.zipIdx.map fun p => D.tup [.int (k + (p.2 : Nat)), p.1])[i]? = xs[i]?.map fun x => .tup [.int (k + (i : Nat)), x] := by
  rw [List.getElem?_map, List.getElem?_zipIdx]
  cases xs[i]? <;> simp
theorem jit_enmT {K : PySem.W.Frag} {m0 : List Addr} {H0 : Hp} {a : Addr} {k : Int} {xs : List D} {vs : List V} (h : SqT K H0 a vs) (r : RDs K m0 H0 xs vs) : JIt K (IteT K a k) (.fix (xs.zipIdx.map fun p => D.tup [.int (k + (p.2 : Nat)), p.1])) m0 H0 where
  stop := fun m S H i x rs e => by
    simp only [nxt, Option.some.injEq, enumD_get] at e
    refine ⟨vs, x.le.sqT h, ?_⟩
    rw [← r.length]
    cases z : xs[i]? with
    | none => exact List.getElem?_eq_none_iff.mp z
    | some w => rw [z] at e; cases e
  go := fun m S H i d x rs e => by
    simp only [nxt, Option.some.injEq, enumD_get] at e
    cases z : xs[i]? with
    | none => rw [z] at e; cases e
    | some w =>
      rw [z] at e
      have ed : D.tup [.int (k + (i : Nat)), w] = d := Option.some.inj e
      subst ed
      obtain ⟨v, ev, rv⟩ := r.get z
      refine ⟨⟨vs, v, x.le.sqT h, ev⟩, fun y H' hy => ?_⟩
      obtain ⟨T, y', rfl, hT, rfl, f⟩ := hy
      have := f vs (x.le.sqT h)
      rw [ev] at this
      have e2 : v = y' := Option.some.inj this
      subst e2
      refine ⟨rs.new hT, .new hT, RD.newTup hT ?_⟩
      simp only [RDs, RD]
      exact ⟨_, _, rfl, rfl, _, _, rfl, RD.mono x _ _ rv, rfl⟩
theorem zipD_get : ∀ (xs ys : List D) (i : Nat), ((xs.zip ys).map fun p => D.tup [p.1, p.2])[i]? = xs[i]?.bind fun x => ys[i]?.map fun y => .tup [x, y]
  | [], _, _ => by simp
  | x :: xs, [], i => by cases h : (x :: xs)[i]? <;> simp
  | x :: xs, y :: ys, 0 => by simp
  | x :: xs, y :: ys, i + 1 => by simpa using zipD_get xs ys i
theorem jit_zipT {K : PySem.W.Frag} {m0 : List Addr} {H0 : Hp} {a b : Addr} {xs ys : List D} {vs ws : List V} (h : SqT K H0 a vs) (r : RDs K m0 H0 xs vs) (h' : SqT K H0 b ws) (r' : RDs K m0 H0 ys ws) : JIt K (RZ.ItzT K a b) (.fix ((xs.zip ys).map fun p => D.tup [p.1, p.2])) m0 H0 where
  stop := fun m S H i x rs e => by
    simp only [nxt, Option.some.injEq, zipD_get] at e
    refine ⟨vs, ws, x.le.sqT h, x.le.sqT h', ?_⟩
    rw [← r.length, ← r'.length]
    cases z : xs[i]? with
    | none => exact .inl (List.getElem?_eq_none_iff.mp z)
    | some w =>
      cases z' : ys[i]? with
      | none => exact .inr (List.getElem?_eq_none_iff.mp z')
      | some w' => rw [z, z'] at e; cases e
  go := fun m S H i d x rs e => by
    simp only [nxt, Option.some.injEq, zipD_get] at e
    cases z : xs[i]? with
    | none => rw [z] at e; cases e
    | some w =>
      cases z' : ys[i]? with
      | none => rw [z, z'] at e; cases e
      | some w' =>
        rw [z, z'] at e
        have ed : D.tup [w, w'] = d := Option.some.inj e
        subst ed
        obtain ⟨v, ev, rv⟩ := r.get z
        obtain ⟨v', ev', rv'⟩ := r'.get z'
        refine ⟨⟨vs, ws, v, v', x.le.sqT h, x.le.sqT h', ev, ev'⟩, fun y H' hy => ?_⟩
        obtain ⟨T, y1, y2, rfl, hT, rfl, f1, f2⟩ := hy
        have q1 := f1 vs (x.le.sqT h)
        have q2 := f2 ws (x.le.sqT h')
        rw [ev] at q1
        rw [ev'] at q2
        have e1 : v = y1 := Option.some.inj q1
        have e2 : v' = y2 := Option.some.inj q2
        subst e1 e2
        refine ⟨rs.new hT, .new hT, RD.newTup hT ?_⟩
        simp only [RDs]
        exact ⟨_, _, rfl, RD.mono x _ _ rv, _, _, rfl, RD.mono x _ _ rv', rfl⟩
theorem jit_zipL {K : PySem.W.Frag} {m0 : List Addr} {H0 : Hp} {n n' : Nat} {a b : Addr} (h : m0[n]? = some a) (h' : m0[n']? = some b) : JIt K (Itz K a b) (.zip n n') m0 H0 where
  stop := fun m S H i x rs e => by
    cases q : lstAt S n with
    | none => simp only [nxt, q] at e; cases e
    | some xs =>
      cases q' : lstAt S n' with
      | none => simp only [nxt, q, q'] at e; cases e
      | some ys =>
        simp only [nxt, q, q', Option.bind_some, Option.map_some, Option.some.injEq] at e
        obtain ⟨vs, hq, t⟩ := rs.lst (pre_get x.pre h) q
        obtain ⟨ws, hq', t'⟩ := rs.lst (pre_get x.pre h') q'
        refine ⟨vs, ws, hq, hq', ?_⟩
        rw [← t.length, ← t'.length]
        cases z : xs[i]? with
        | none => exact .inl (List.getElem?_eq_none_iff.mp z)
        | some w =>
          cases z' : ys[i]? with
          | none => exact .inr (List.getElem?_eq_none_iff.mp z')
          | some w' => rw [z, z'] at e; cases e
  go := fun m S H i d x rs e => by
    cases q : lstAt S n with
    | none => simp only [nxt, q] at e; cases e
    | some xs =>
      cases q' : lstAt S n' with
      | none => simp only [nxt, q, q'] at e; cases e
      | some ys =>
        simp only [nxt, q, q', Option.bind_some, Option.map_some, Option.some.injEq] at e
        obtain ⟨vs, hq, t⟩ := rs.lst (pre_get x.pre h) q
        obtain ⟨ws, hq', t'⟩ := rs.lst (pre_get x.pre h') q'
        cases z : xs[i]? with
        | none => rw [z] at e; cases e
        | some w =>
          cases z' : ys[i]? with
          | none => rw [z, z'] at e; cases e
          | some w' =>
            rw [z, z'] at e
            have ed : D.tup [w, w'] = d := Option.some.inj e
            subst ed
            obtain ⟨v, ev, rv⟩ := t.get z
            obtain ⟨v', ev', rv'⟩ := t'.get z'
            refine ⟨⟨vs, ws, v, v', hq, hq', ev, ev'⟩, fun y H' hy => ?_⟩
            obtain ⟨T, y1, y2, rfl, hT, rfl, f1, f2⟩ := hy
            have q1 := f1 vs hq
            have q2 := f2 ws hq'
            rw [ev] at q1
            rw [ev'] at q2
            have e1 : v = y1 := Option.some.inj q1
            have e2 : v' = y2 := Option.some.inj q2
            subst e1 e2
            refine ⟨rs.new hT, .new hT, RD.newTup hT ?_⟩
            simp only [RDs]
            exact ⟨_, _, rfl, rv, _, _, rfl, rv', rfl⟩
theorem jit_rng {K : PySem.W.Frag} {m0 : List Addr} {H0 : Hp} {lo : Int} {n : Nat} : JIt K (Itr lo n) (.rng lo n) m0 H0 where
  stop := fun m S H i x rs e => by
    by_cases h : i < n
    · simp only [nxt, blt_t h] at e; cases e
    · show n ≤ i
      omega
  go := fun m S H i d x rs e => by
    by_cases h : i < n
    · simp only [nxt, blt_t h, Option.some.injEq] at e
      subst e
      refine ⟨h, fun y H' hy => ?_⟩
      obtain ⟨rfl, rfl⟩ := hy
      exact ⟨rs, .refl _ _, by simp only [RD]⟩
    · simp only [nxt, blt_f h] at e; cases e

/-! ### sources -/
def wI (X : Cx) (tg iter : Expr) (σ : St) (H : Hp) (R : It → Hp → Prop) : Prop := ∀ pins s, Inv X pins σ H s → wpAny (model X.prog X.w) X.A (eval iter X.env) (fun v s1 => wpAny (model X.prog X.w) X.A (pyIter v) (PIE X pins σ tg R) X.xe s1) X.xe s
theorem piw {X : Cx} (tg iter : Expr) : PI X tg iter (wI X tg iter) := ⟨fun pins s σ H R I h => h pins s I⟩
theorem wI.of {X : Cx} {tg iter : Expr} {t : TI} (h : PI X tg iter t) {σ : St} {H : Hp} {R : It → Hp → Prop} (q : t σ H R) : wI X tg iter σ H R := fun pins s I => h.run pins s σ H R I q
abbrev GI (K : PySem.W.Frag) (m : List Addr) (H : Hp) (P : Itm → Sto → List Addr → Hp → Prop) : It → Hp → Prop := fun J H' => ∃ it S' m', RS K m' S' H' ∧ JIt K J it m' H' ∧ Ext m H m' H' ∧ P it S' m' H'
structure QI (X : Cx) (tg iter : Expr) (f : Env → M Itm) : Prop where
  run : ∀ (W : WX), Takes X W → ∀ (m : List Addr) (S : Sto) (σ : Env) (σv : St) (H : Hp) (P : Itm → Sto → List Addr → Hp → Prop), RS X.K m S H → RE X.K m H σ σv →
  PostG X.K X.mg m H (f σ S) P (fun c d H' => W c d σv H') → wI X tg iter σv H (GI X.K m H P)
def upI (o : Sto → Option Itm) : M Itm := fun S => match o S with
  | some it => .ok it S
  | none => .bad
theorem PostG.upI {K : PySem.W.Frag} {mg : Str → Option Value} {m : List Addr} {H : Hp} {E : XK} {o : Sto → Option Itm} {S : Sto} {P : Itm → Sto → List Addr → Hp → Prop} (h : PostG K mg m H (Z.upI o S) P E) (rs : RS K m S H) : ∃ it, o S = some it ∧ P it S m H := by
  unfold Z.upI at h
  cases e : o S with
  | none => rw [e] at h; exact h.elim
  | some it => rw [e] at h; exact ⟨it, rfl, h m H (.refl _ _) rs⟩
/-- a tuple, a list -/
def itOf (d : D) (S : Sto) : Option Itm := match d with
  | .tup xs => some (.fix xs)
  | .loc n => (lstAt S n).map fun _ => .lst n
  | _ => none
def iSeq (f : Env → M D) : Env → M Itm := fun σ => bnd (f σ) fun d => upI (itOf d)
@[irreducible] def itRng1 (ds : List D) (S : Sto) : Option Itm := match ds with
  | [.int j] => if -(2 ^ 62) ≤ j ∧ j < 2 ^ 62 then some (.rng 0 j.toNat) else none
  | _ => none
@[irreducible] def itRng2 (ds : List D) (S : Sto) : Option Itm := match ds with
  | [.int i, .int j] => if -(2 ^ 62) ≤ i ∧ i < 2 ^ 62 ∧ -(2 ^ 62) ≤ j ∧ j < 2 ^ 62 then some (.rng i (j - i).toNat) else none
  | _ => none
def iRng1' (g : Env → M (List D)) : Env → M Itm := fun σ => bnd (g σ) fun ds => upI (itRng1 ds)
def iRng2' (g : Env → M (List D)) : Env → M Itm := fun σ => bnd (g σ) fun ds => upI (itRng2 ds)
def itEnm (ds : List D) (S : Sto) : Option Itm := match ds with
  | [.tup xs] => some (.fix (xs.zipIdx.map fun p => D.tup [.int (0 + (p.2 : Nat)), p.1]))
  | [.loc n] => (lstAt S n).map fun _ => .enm n
  | _ => none
def iEnm (g : Env → M (List D)) : Env → M Itm := fun σ => bnd (g σ) fun ds => upI (itEnm ds)
def itEnmK (ds : List D) (S : Sto) : Option Itm := match ds with
  | [.tup xs, .int k] => if -(2 ^ 63) ≤ k ∧ k < 2 ^ 63 then some (.fix (xs.zipIdx.map fun p => D.tup [.int (k + (p.2 : Nat)), p.1])) else none
  | _ => none
def iEnmK (g : Env → M (List D)) : Env → M Itm := fun σ => bnd (g σ) fun ds => upI (itEnmK ds)
def itZip (ds : List D) (S : Sto) : Option Itm := match ds with
  | [.tup xs, .tup ys] => some (.fix ((xs.zip ys).map fun p => D.tup [p.1, p.2]))
  | [.loc a, .loc b] => (lstAt S a).bind fun _ => (lstAt S b).map fun _ => .zip a b
  | _ => none
def iZp (g : Env → M (List D)) : Env → M Itm := fun σ => bnd (g σ) fun ds => upI (itZip ds)
section
variable {X : Cx} {tg e : Expr} {es : List Expr} {f : Env → M D} {g : Env → M (List D)} {p pos : Pos}
theorem qi_seq (he : QE X e f) : QI X tg e (iSeq f) := ⟨fun W tk m S σ σv H P rs re q => by
  intro pins s I
  refine thn (he.run W tk m S σ σv H _ rs re q.bnd pins s I) ?_
  rintro v s1 ⟨x, H1, I1, r1, d, S1, m1, rs1, rd, x1, q1⟩
  obtain ⟨it, e1, q2⟩ := q1.upI rs1
  cases d with
  | tup xs =>
    cases e1
    simp only [RD] at rd
    obtain ⟨a, vs, rfl, hq, rr⟩ := rd
    cases r1
    obtain ⟨its, rv, pt, hz⟩ := I1.tuple hq
    refine wpAny_pyIter_tuple (show s1.heap.IsTuple a its.toArray from pt) ?_
    have hle := Nat.le_refl s1.heap.objs.size
    refine ⟨s1.heap.objs.size, [s1.heap.objs.size], _, _, H1, rfl, I1.kept (t' := s1.toks) fun b o e => Heap.get?_push_of_some _ e, turn_tuple a _, ⟨_, Heap.get?_push_size _ rfl, rfl, rfl⟩, fun b hb => ?_, .fix xs, S1, m1, rs1, jit_fix hq rr, x1, q2⟩
    rw [List.mem_singleton.mp hb]
    exact I1.fpOk hle (I1.hok.fresh hle)
  | loc n =>
    cases qn : lstAt S1 n with
    | none => simp only [itOf, qn] at e1; cases e1
    | some ys =>
      simp only [itOf, qn, Option.map_some, Option.some.injEq] at e1
      subst e1
      simp only [RD] at rd
      obtain ⟨a, rfl, hm⟩ := rd
      cases r1
      obtain ⟨vs, hq, t⟩ := rs1.lst hm qn
      obtain ⟨its, rv, pt, hz⟩ := I1.list hq
      refine wpAny_pyIter_list pt.isList ?_
      have hle := Nat.le_refl s1.heap.objs.size
      refine ⟨s1.heap.objs.size, [s1.heap.objs.size], _, _, H1, rfl, I1.kept (t' := s1.toks) fun b o e => Heap.get?_push_of_some _ e, turn_list a _, ⟨_, Heap.get?_push_size _ rfl, rfl, rfl⟩, fun b hb => ?_, .lst n, S1, m1, rs1, jit_lst hm, x1, q2⟩
      rw [List.mem_singleton.mp hb]
      exact I1.fpOk hle (I1.hok.fresh hle)
  | _ => cases e1⟩
theorem qi_rng1 {a : Expr} (hm : X.mg "range" = none) (ha : QA X [a] g) (hg : glB X.env.scope "range" = true := by kernel_rfl) (hs : PySem.W.isStarred a = false := by rfl) : QI X tg (.Call (.Name "range" p) [a] [] pos) (iRng1' g) := ⟨fun W tk m S σ σv H P rs re q => by
  refine wI.of (pi_range1 (glB_ok hg).1 hm (paw [a]) (star1 hs)) ?_
  intro pos' pins' s' I'
  refine thn (ha.run W tk m S σ σv H _ rs re q.bnd pos' pins' s' I') ?_
  rintro us s2 ⟨vs, H2, I2, rv, ds, S2, m2, rs2, r2, x2, q2⟩
  obtain ⟨it, e1, q3⟩ := q2.upI rs2
  refine ⟨vs, H2, I2, rv, ?_⟩
  unfold itRng1 at e1
  split at e1
  · split at e1
    · rename_i hb
      cases e1
      simp only [RDs, RD] at r2
      obtain ⟨v, r, rfl, rfl, rfl⟩ := r2
      exact ⟨_, rfl, hb.1, hb.2, _, S2, m2, rs2, jit_rng, x2, q3⟩
    · cases e1
  · cases e1⟩
theorem qi_rng2 {a b : Expr} (hm : X.mg "range" = none) (ha : QA X [a, b] g) (hg : glB X.env.scope "range" = true := by kernel_rfl) (hs : PySem.W.isStarred a = false := by rfl) (hs2 : PySem.W.isStarred b = false := by rfl) : QI X tg (.Call (.Name "range" p) [a, b] [] pos) (iRng2' g) := ⟨fun W tk m S σ σv H P rs re q => by
  refine wI.of (pi_range2 (glB_ok hg).1 hm (paw [a, b]) (by rw [star1 hs, star1 hs2]; rfl) (star1 hs2)) ?_
  intro pos' pins' s' I'
  refine thn (ha.run W tk m S σ σv H _ rs re q.bnd pos' pins' s' I') ?_
  rintro us s2 ⟨vs, H2, I2, rv, ds, S2, m2, rs2, r2, x2, q2⟩
  obtain ⟨it, e1, q3⟩ := q2.upI rs2
  refine ⟨vs, H2, I2, rv, ?_⟩
  unfold itRng2 at e1
  split at e1
  · split at e1
    · rename_i hb
      cases e1
      simp only [RDs, RD] at r2
      obtain ⟨v, r, rfl, rfl, v', r', rfl, rfl, rfl⟩ := r2
      exact ⟨_, _, rfl, hb, _, S2, m2, rs2, jit_rng, x2, q3⟩
    · cases e1
  · cases e1⟩
theorem qi_enm {a : Expr} {elts : List Expr} {kk : Nat} {tpos : Pos} (hm : X.mg "enumerate" = none) (ha : QA X [a] g) (hg : glB X.env.scope "enumerate" = true := by kernel_rfl) (hs : PySem.W.isStarred a = false := by rfl) : QI X (.Tuple elts kk tpos) (.Call (.Name "enumerate" p) [a] [] pos) (iEnm g) := ⟨fun W tk m S σ σv H P rs re q => by
  intro pins s I
  refine Call_ (ld_blt I (glB_ok hg).1 hm boot_enumerate (PyProof.Rows.callWith_type1 ?_ (star1 hs) rfl))
  refine thn (ha.run W tk m S σ σv H _ rs re q.bnd pos pins s I) ?_
  rintro us s1 ⟨vs, H1, I1, rv, ds, S1, m1, rs1, r1, x1, q1⟩
  obtain ⟨it, e1, q3⟩ := q1.upI rs1
  unfold itEnm at e1
  split at e1
  · rename_i xs
    cases e1
    simp only [RDs, RD] at r1
    obtain ⟨v, r, rfl, ⟨a', ws, rfl, hq, rr⟩, rfl⟩ := r1
    obtain ⟨u, rfl, ru⟩ := Vals.one rv
    cases ru
    obtain ⟨its, rvv, pt, hz⟩ := I1.tuple hq
    have la : a' < s1.heap.objs.size := by obtain ⟨o, ho, _⟩ := id pt; exact Heap.lt_size ho
    refine enumT_call (show s1.heap.IsTuple a' its.toArray from pt) fun h' he hit hk => wpAny_pyIter_enum he ?_
    have I2 : Inv X pins σv H1 { s1 with heap := h' } := I1.kept (t' := s1.toks) hk
    refine ⟨s1.heap.objs.size + 1, [s1.heap.objs.size + 1, s1.heap.objs.size], _, _, H1, rfl, I2, turn_enumT a' (s1.heap.objs.size + 1) s1.heap.objs.size 0 (Nat.ne_of_gt (Nat.lt_succ_of_lt la)) (Nat.ne_of_gt la), ⟨⟨.none, he⟩, hit, Nat.succ_ne_self _⟩, fun b hb => ?_, _, S1, m1, rs1, jit_enmT hq rr, x1, q3⟩
    have hle : s1.heap.objs.size ≤ b := by
      rcases List.mem_cons.mp hb with z | z
      · rw [z]; exact Nat.le_succ _
      · rw [List.mem_singleton.mp z]; exact Nat.le_refl _
    exact I1.fpOk hle (I1.hok.fresh hle)
  · rename_i n
    cases qn : lstAt S1 n with
    | none => rw [qn] at e1; cases e1
    | some ys =>
      rw [qn] at e1
      cases e1
      simp only [RDs, RD] at r1
      obtain ⟨v, r, rfl, ⟨a', rfl, hm'⟩, rfl⟩ := r1
      obtain ⟨u, rfl, ru⟩ := Vals.one rv
      cases ru
      obtain ⟨ws, hq, t⟩ := rs1.lst hm' qn
      obtain ⟨its, rvv, pt, hz⟩ := I1.list hq
      refine call_enumerate_list pt.isList fun h' he hit hsz hk => wpAny_pyIter_enum he ?_
      have I2 : Inv X pins σv H1 { s1 with heap := h' } := I1.kept (t' := s1.toks) hk
      refine ⟨s1.heap.objs.size + 1, [s1.heap.objs.size + 1, s1.heap.objs.size], _, _, H1, rfl, I2, turn_enum a' (s1.heap.objs.size + 1) s1.heap.objs.size, ⟨⟨.none, he⟩, hit, Nat.succ_ne_self _⟩, fun b hb => ?_, _, S1, m1, rs1, jit_enm hm', x1, q3⟩
      have hle : s1.heap.objs.size ≤ b := by
        rcases List.mem_cons.mp hb with z | z
        · rw [z]; exact Nat.le_succ _
        · rw [List.mem_singleton.mp z]; exact Nat.le_refl _
      exact I1.fpOk hle (I1.hok.fresh hle)
  · cases e1⟩
theorem qi_enmK {a b : Expr} {elts : List Expr} {kk : Nat} {tpos : Pos} (hm : X.mg "enumerate" = none) (ha : QA X [a, b] g) (hg : glB X.env.scope "enumerate" = true := by kernel_rfl) (hs : PySem.W.isStarred a = false := by rfl) (hpl : [b].any PySem.W.isStarred = false := by rfl) : QI X (.Tuple elts kk tpos) (.Call (.Name "enumerate" p) [a, b] [] pos) (iEnmK g) := ⟨fun W tk m S σ σv H P rs re q => by
  intro pins s I
  refine Call_ (ld_blt I (glB_ok hg).1 hm boot_enumerate (PyProof.Rows.callWith_type1 ?_ (star1 hs) (star2 hpl)))
  refine thn (ha.run W tk m S σ σv H _ rs re q.bnd pos pins s I) ?_
  rintro us s1 ⟨vs, H1, I1, rv, ds, S1, m1, rs1, r1, x1, q1⟩
  obtain ⟨it, e1, q3⟩ := q1.upI rs1
  unfold itEnmK at e1
  split at e1
  · rename_i xs k
    split at e1
    · rename_i hb
      cases e1
      simp only [RDs, RD] at r1
      obtain ⟨v, r, rfl, ⟨a', ws, rfl, hq, rr⟩, v', r', rfl, rfl, rfl⟩ := r1
      obtain ⟨u, u', rfl, ru, ru'⟩ := Vals.two rv
      cases ru
      obtain ⟨tt, rfl⟩ := ru'
      obtain ⟨its, rvv, pt, hz⟩ := I1.tuple hq
      have la : a' < s1.heap.objs.size := by obtain ⟨o, ho, _⟩ := id pt; exact Heap.lt_size ho
      refine enum_begins (begins_tuple a' its.toArray) (show s1.heap.IsTuple a' its.toArray from pt) hb.1 hb.2 fun h' he hit hsz hk => wpAny_pyIter_enum he ?_
      have I2 : Inv X pins σv H1 { s1 with heap := h' } := I1.kept (t' := s1.toks) hk
      refine ⟨s1.heap.objs.size + 1, [s1.heap.objs.size + 1, s1.heap.objs.size], _, _, H1, rfl, I2, turn_enumT a' (s1.heap.objs.size + 1) s1.heap.objs.size k (Nat.ne_of_gt (Nat.lt_succ_of_lt la)) (Nat.ne_of_gt la), ⟨⟨.none, by simpa using he⟩, ⟨_, hit, rfl, rfl⟩, Nat.succ_ne_self _⟩, fun b hb => ?_, _, S1, m1, rs1, jit_enmT hq rr, x1, q3⟩
      have hle : s1.heap.objs.size ≤ b := by
        rcases List.mem_cons.mp hb with z | z
        · rw [z]; exact Nat.le_succ _
        · rw [List.mem_singleton.mp z]; exact Nat.le_refl _
      exact I1.fpOk hle (I1.hok.fresh hle)
    · cases e1
  · cases e1⟩
theorem qi_zip {a b : Expr} {elts : List Expr} {kk : Nat} {tpos : Pos} (hm : X.mg "zip" = none) (ha : QA X [a, b] g) (hg : glB X.env.scope "zip" = true := by kernel_rfl) (hs : PySem.W.isStarred a = false := by rfl) (hpl : [b].any PySem.W.isStarred = false := by rfl) : QI X (.Tuple elts kk tpos) (.Call (.Name "zip" p) [a, b] [] pos) (iZp g) := ⟨fun W tk m S σ σv H P rs re q => by
  refine wI.of (RZ.pi_zipA (glB_ok hg).1 hm (paw [a, b]) (star1 hs) (star2 hpl)) ?_
  intro pos' pins' s' I'
  refine thn (ha.run W tk m S σ σv H _ rs re q.bnd pos' pins' s' I') ?_
  rintro us s2 ⟨vs, H2, I2, rv, ds, S2, m2, rs2, r2, x2, q2⟩
  obtain ⟨it, e1, q3⟩ := q2.upI rs2
  refine ⟨vs, H2, I2, rv, ?_⟩
  unfold itZip at e1
  split at e1
  · cases e1
    simp only [RDs, RD] at r2
    obtain ⟨v, r, rfl, ⟨a', ws, rfl, hq, rr⟩, v', r', rfl, ⟨b', ws', rfl, hq', rr'⟩, rfl⟩ := r2
    exact ⟨a', b', ws, ws', rfl, .inr ⟨hq, hq', _, S2, m2, rs2, jit_zipT hq rr hq' rr', x2, q3⟩⟩
  · rename_i n n'
    cases qn : lstAt S2 n with
    | none => rw [qn] at e1; cases e1
    | some ys =>
      cases qn' : lstAt S2 n' with
      | none => rw [qn, qn'] at e1; cases e1
      | some ys' =>
        rw [qn, qn'] at e1
        cases e1
        simp only [RDs, RD] at r2
        obtain ⟨v, r, rfl, ⟨a', rfl, hm1⟩, v', r', rfl, ⟨b', rfl, hm2⟩, rfl⟩ := r2
        obtain ⟨ws, hq, t⟩ := rs2.lst hm1 qn
        obtain ⟨ws', hq', t'⟩ := rs2.lst hm2 qn'
        exact ⟨a', b', ws, ws', rfl, .inl ⟨hq, hq', _, S2, m2, rs2, jit_zipL hm1 hm2, x2, q3⟩⟩
  · cases e1⟩
end
end L2.Z

set_option Elab.async false
set_option linter.all false
set_option maxRecDepth 100000
set_option maxHeartbeats 4000000
/-! Z6: for, while, list comprehensions. -/
namespace L2.Z
open PySem PySem.Spec PyProof.Rows
variable [HasT]

def forL (it : Itm) (t : Tg) (b : Sm) : Nat → Nat → Env → M (Fl × Env)
  | 0, _, _ => bad
  | n + 1, i, σ => fun S => match nxt it i S with
    | none => .bad
    | some none => .ok (.nx, σ) S
    | some (some d) => match t d σ with
      | none => .bad
      | some σ1 => match b σ1 S with
        | .ok (.nx, σ2) S2 => forL it t b n (i + 1) σ2 S2
        | .ok (.ct, σ2) S2 => forL it t b n (i + 1) σ2 S2
        | .ok (.bk, σ2) S2 => .ok (.nx, σ2) S2
        | r => r
def sFor (src : Env → M Itm) (t : Tg) (b : Sm) : Sm := fun σ => sE (src σ) σ fun it S => forL it t b (cnt it S) 0 σ S
theorem wI.mono {X : Cx} {tg iter : Expr} {σ : St} {H : Hp} {R R' : It → Hp → Prop} (h : wI X tg iter σ H R) (q : ∀ J H', R J H' → R' J H') : wI X tg iter σ H R' := fun pins s I =>
  thn (h pins s I) fun v s1 h1 => thn h1 fun itv s2 ⟨it, fp, tn, J, H', e, I', T, st, f, r⟩ => ⟨it, fp, tn, J, H', e, I', T, st, f, q _ _ r⟩
section
variable {X : Cx} {tg iter : Expr} {body : List Stmt} {src : Env → M Itm} {vs : List Nat} {t : Tg} {b : Sm} {pos : Pos}
theorem qs_for (hp : PassesOwn (model X.prog X.w) X.A X.env X.xe) (hc : X.calm = true) (hi : QI X tg iter src) (hg : QG X tg vs t) (hb : QSs X body b)
    (hs : ∀ x, foldedSetIterable iter X.env x = pure x := by intro _; rfl) : QS X (.For tg iter body [] pos) (sFor src t b) := ⟨fun W tk m S σ σv H Dn rs re p => by
  refine wS.of (ps_for hp hc (piw tg iter) (pgw tg) (pssw body) hs) ?_
  refine (hi.run W tk m S σ σv H _ rs re (PostS.sE re p)).mono ?_
  rintro J H1 ⟨it, S1, m1, rs1, ji, x1, q1⟩
  refine ⟨fun i n σ' H' => ∃ m S σz, RS X.K m S H' ∧ RE X.K m H' σz σ' ∧ Ext m1 H1 m H' ∧ PostS X.K X.mg m H' (forL it t b n i σz S) Dn W, ⟨_, m1, S1, σ, rs1, re.mono x1, .refl _ _, q1⟩, ?_⟩
  rintro i n σ' H' ⟨m2, S2, σ2, rs2, re2, x2, q2⟩
  cases n with
  | zero => exact q2.elim
  | succ n =>
    unfold forL at q2
    cases en : nxt it i S2 with
    | none => rw [en] at q2; exact q2.elim
    | some o =>
      rw [en] at q2
      cases o with
      | none => exact .inl ⟨ji.stop m2 S2 H' i x2 rs2 en, q2 m2 H' σ' (.refl _ _) rs2 re2⟩
      | some d =>
        obtain ⟨g1, g2⟩ := ji.go m2 S2 H' i d x2 rs2 en
        refine .inr ⟨g1, fun σ'' H'' => ∃ m S σz, RS X.K m S H'' ∧ RE X.K m H'' σz σ'' ∧ Ext m1 H1 m H'' ∧ PostS X.K X.mg m H'' (forL it t b n (i + 1) σz S) Dn W, fun σ'' H'' h => ⟨n, Nat.lt_succ_self _, h⟩, fun x H3 hy => ?_⟩
        obtain ⟨rs3, x3, rd3⟩ := g2 x H3 hy
        cases et : t d σ2 with
        | none => simp only [et] at q2; exact q2.elim
        | some σ3 =>
          simp only [et] at q2
          refine hg.run m2 S2 σ2 σ3 σ' H3 d x _ rs3 (re2.mono x3) rd3 et fun σv3 re3 _ => ?_
          refine hb.run W tk m2 S2 σ3 σv3 H3 _ rs3 re3 ?_
          have q3 := PostS.ext q2 x3
          cases eb : b σ3 S2 with
          | bad => simp only [eb] at q3; exact q3
          | exc y S4 => simp only [eb] at q3; exact q3
          | ok y S4 =>
            obtain ⟨fl, σ4⟩ := y
            cases fl with
            | nx => simp only [eb] at q3; exact fun m' H'' σv' x' rs' re' => ⟨m', S4, σ4, rs', re', (x2.trans x3).trans x', PostS.ext q3 x'⟩
            | ct => simp only [eb] at q3; exact fun m' H'' σv' x' rs' re' => ⟨m', S4, σ4, rs', re', (x2.trans x3).trans x', PostS.ext q3 x'⟩
            | bk => simp only [eb] at q3; exact q3
            | rt d => simp only [eb] at q3; exact q3
            | xc d => simp only [eb] at q3; exact q3⟩
end

def whL (t : Env → M Bool) (b : Sm) : Nat → Env → M (Fl × Env)
  | 0, _ => bad
  | n + 1, σ => sE (t σ) σ fun c => match c with
    | false => ret (.nx, σ)
    | true => fun S => match b σ S with
      | .ok (.nx, σ2) S2 => whL t b n σ2 S2
      | .ok (.ct, σ2) S2 => whL t b n σ2 S2
      | .ok (.bk, σ2) S2 => .ok (.nx, σ2) S2
      | r => r
def sWhile (n : Nat) (t : Env → M Bool) (b : Sm) : Sm := fun σ => whL t b n σ
section
variable {X : Cx} {c : Expr} {body : List Stmt} {t : Env → M Bool} {b : Sm} {pos : Pos}
theorem qs_while (n : Nat) (hp : PassesOwn (model X.prog X.w) X.A X.env X.xe) (hc : QT X c t) (hb : QSs X body b) : QS X (.While c body [] pos) (sWhile n t b) := ⟨fun W tk m S σ σv H Dn rs re p => by
  refine wS.of (ps_while hp (ptw c) (pssw body)) ?_
  refine ⟨fun n σ' H' => ∃ m S σz, RS X.K m S H' ∧ RE X.K m H' σz σ' ∧ PostS X.K X.mg m H' (whL t b n σz S) Dn W, ⟨n, m, S, σ, rs, re, p⟩, ?_⟩
  rintro n σ' H' ⟨m2, S2, σ2, rs2, re2, q2⟩
  cases n with
  | zero => exact q2.elim
  | succ n =>
    unfold whL at q2
    refine (hc.run W tk m2 S2 σ2 σ' H' _ rs2 re2 (PostS.sE re2 q2)).mono ?_
    rintro k H3 ⟨S3, m3, rs3, x3, q3⟩
    cases k with
    | false => exact iteF (q3 m3 H3 σ' (.refl _ _) rs3 (re2.mono x3))
    | true =>
      refine iteT ⟨fun σ'' H'' => ∃ m S σz, RS X.K m S H'' ∧ RE X.K m H'' σz σ'' ∧ PostS X.K X.mg m H'' (whL t b n σz S) Dn W, fun σ'' H'' h => ⟨n, Nat.lt_succ_self _, h⟩, ?_⟩
      refine hb.run W tk m3 S3 σ2 σ' H3 _ rs3 (re2.mono x3) ?_
      cases eb : b σ2 S3 with
      | bad => simp only [eb] at q3; exact q3
      | exc y S4 => simp only [eb] at q3; exact q3
      | ok y S4 =>
        obtain ⟨fl, σ4⟩ := y
        cases fl with
        | nx => simp only [eb] at q3; exact fun m' H'' σv' x' rs' re' => ⟨m', S4, σ4, rs', re', PostS.ext q3 x'⟩
        | ct => simp only [eb] at q3; exact fun m' H'' σv' x' rs' re' => ⟨m', S4, σ4, rs', re', PostS.ext q3 x'⟩
        | bk => simp only [eb] at q3; exact q3
        | rt d => simp only [eb] at q3; exact q3
        | xc d => simp only [eb] at q3; exact q3⟩
end

/-! ### list comprehensions -/
def wipeE (σ : Env) : List Nat → Env
  | [] => σ
  | v :: vs => (wipeE σ vs).set v none
theorem RE.unset {K : PySem.W.Frag} {m : List Addr} {H : Hp} {σ : Env} {σv : St} (r : RE K m H σ σv) (i : Nat) : RE K m H (σ.set i none) (σv.set i none) :=
  ⟨by simp [r.len], fun j e h => by
    by_cases hj : i = j
    · subst hj
      by_cases hl : i < σ.length
      · rw [List.getElem?_set_self hl] at h; cases h
      · rw [List.getElem?_eq_none (by simpa using hl)] at h; cases h
    · rw [List.getElem?_set_ne hj] at h
      rw [List.getElem?_set_ne hj]
      exact r.at_ j e h⟩
theorem RE.wipe {K : PySem.W.Frag} {m : List Addr} {H : Hp} {σ : Env} {σv : St} (r : RE K m H σ σv) : ∀ vs : List Nat, RE K m H (wipeE σ vs) (L2.wipe σv vs)
  | [] => r
  | v :: vs => (r.wipe vs).unset v
theorem wipe_get (σ : St) : ∀ (vs : List Nat) (i : Nat), (L2.wipe σ vs)[i]? = if i ∈ vs then (if i < σ.length then some none else none) else σ[i]?
  | [], i => by simp [L2.wipe]
  | v :: vs, i => by
    unfold L2.wipe
    by_cases h : v = i
    · subst h
      by_cases hl : v < σ.length
      · rw [List.getElem?_set_self (by rw [wipe_length]; exact hl)]; simp [hl]
      · rw [List.getElem?_eq_none (by simp [wipe_length]; omega)]; simp [hl]
    · rw [List.getElem?_set_ne h, wipe_get σ vs i]
      by_cases h2 : i ∈ vs
      · simp [h2]
      · simp [h2, Ne.symm h]
theorem OnlyS.wipe {vs ws : List Nat} {σ σ' : St} (o : OnlyS ws (L2.wipe σ vs) σ') (h : ∀ i ∈ ws, i ∈ vs) : L2.wipe σ' vs = L2.wipe σ vs := by
  apply List.ext_getElem?
  intro i
  have hl : σ'.length = σ.length := by rw [← o.1, wipe_length]
  rw [wipe_get, wipe_get, hl]
  by_cases hi : i ∈ vs
  · simp [hi]
  · simp only [hi, if_false]
    rw [o.2 i (fun z => hi (h i z)), wipe_get]
    simp [hi]

theorem RDs.snoc {K : PySem.W.Frag} {m : List Addr} {H : Hp} : ∀ {ds : List D} {vs : List V} {d : D} {v : V}, RDs K m H ds vs → RD K m H d v → RDs K m H (ds ++ [d]) (vs ++ [v])
  | [], vs, d, v, h, q => by simp only [RDs] at h; subst h; simp only [List.nil_append, RDs]; exact ⟨v, [], rfl, q, rfl⟩
  | d0 :: ds, vs, d, v, h, q => by
    simp only [RDs] at h
    obtain ⟨v0, r, rfl, q0, t⟩ := h
    simp only [List.cons_append, RDs]
    exact ⟨v0, r ++ [v], rfl, q0, RDs.snoc t q⟩
def lcL (it : Itm) (t : Tg) (tt : Env → M Bool) (f : Env → M D) (n : Nat) (σ : Env) : Nat → Nat → M Unit
  | 0, _ => bad
  | k + 1, i => fun S => match nxt it i S with
    | none => .bad
    | some none => .ok () S
    | some (some d) => match t d σ with
      | none => .bad
      | some σ1 => match tt σ1 S with
        | .ok false S1 => lcL it t tt f n σ k (i + 1) S1
        | .ok true S1 => match f σ1 S1 with
          | .ok y S2 => match S2.get n with
            | some (.lst acc) => match Nat.blt acc.length sizeLine with
              | true => lcL it t tt f n σ k (i + 1) (S2.set n (.lst (acc ++ [y])))
              | false => .bad
            | _ => .bad
          | _ => .bad
        | _ => .bad
def eLc (vs : List Nat) (src : Env → M Itm) (t : Tg) (tt : Env → M Bool) (f : Env → M D) : Env → M D := fun σ => bnd (src σ) fun it S => match lcL it t tt f S.n (wipeE σ vs) (cnt it S) 0 (S.push (.lst [])) with
  | .ok _ S' => .ok (.loc S.n) S'
  | _ => .bad
def tYesM : Env → M Bool := fun _ => ret true
/-- a clause's tests -/
structure QTs (X : Cx) (ifs : List Expr) (f : Env → M Bool) : Prop where
  run : ∀ (W : WX), Takes X W → ∀ (m : List Addr) (S : Sto) (σ : Env) (σv : St) (H : Hp) (P : Bool → Sto → List Addr → Hp → Prop), RS X.K m S H → RE X.K m H σ σv →
  PostG X.K X.mg m H (f σ S) P (fun c d H' => W c d σv H') → ∀ pins s, Inv X pins σv H s → wpAny (model X.prog X.w) X.A (forIn ifs true fun c r => if r = true then do let ok ← isTrue c X.env (eval c X.env); pure (ForInStep.yield ok) else pure (ForInStep.yield r)) (TP X pins σv (GB X.K m H P)) X.xe s
section
variable {X : Cx}
theorem qts_nil : QTs X [] tYesM := ⟨fun W tk m S σ σv H P rs re p pins s I => pts_nil.run pins s σv H _ I ⟨S, m, rs, .refl _ _, p m H (.refl _ _) rs⟩⟩
theorem qts_one {c : Expr} {t : Env → M Bool} (h : QT X c t) : QTs X [c] t := ⟨fun W tk m S σ σv H P rs re p pins s I => (pts_one (ptw c)).run pins s σv H _ I (h.run W tk m S σ σv H P rs re p)⟩
end
abbrev Bk (X : Cx) (scope : Scope) (s : Shared) (H : Hp) (C : Addr) (cl : List (Str × Addr)) (fp : List Addr) : Cx := X.blk s H scope (compEnvC scope cl C X.env) fp
section
variable {X : Cx} {elt tg iter : Expr} {ifs : List Expr} {scope : Scope} {own : List (Str × Nat)} {pos : Pos} {src : Env → M Itm} {vs : List Nat} {t : Tg} {tt : Env → M Bool} {f : Env → M D}
/-- the readings of a block's parts, in all its contexts -/
def gB (X : Cx) (scope : Scope) (tg : Expr) : TG := fun v σ H Q => ∀ s H0 C cl fp, wG (Bk X scope s H0 C cl fp) tg v σ H Q
def ttB (X : Cx) (scope : Scope) (ifs : List Expr) : TT := fun σ H Q => ∀ s0 H0 C cl fp, ∀ pins s, Inv (Bk X scope s0 H0 C cl fp) pins σ H s → wpAny (model X.prog X.w) X.A (forIn ifs true fun c r => if r = true then do let ok ← isTrue c (compEnvC scope cl C X.env) (eval c (compEnvC scope cl C X.env)); pure (ForInStep.yield ok) else pure (ForInStep.yield r)) (TP (Bk X scope s0 H0 C cl fp) pins σ Q) (fun _ _ => False) s
def teB (X : Cx) (scope : Scope) (e : Expr) : TE := fun σ H Q => ∀ s H0 C cl fp, wE (Bk X scope s H0 C cl fp) e σ H Q
theorem lc_reads (hi : QI X tg iter src) (hg : ∀ s H C cl fp, QG (Bk X scope s H C cl fp) tg vs t) (ht : ∀ s H C cl fp, QTs (Bk X scope s H C cl fp) ifs tt) (he : ∀ s H C cl fp, QE (Bk X scope s H C cl fp) elt f) (hv : ∀ i ∈ vs, i ∈ own.map (·.2))
    {W : WX} (tk : Takes X W) {m : List Addr} {S : Sto} {σ : Env} {σv : St} {H : Hp} {P : D → Sto → List Addr → Hp → Prop} {Q : VK} (rs : RS X.K m S H) (re : RE X.K m H σ σv)
    (p : PostG X.K X.mg m H (eLc (own.map (·.2)) src t tt f σ S) P (fun c d H' => W c d σv H')) (hQ : ∀ v H', GV X.K m H P v H' → Q v H') :
    tLc (wI X tg iter) (gB X scope tg) (ttB X scope ifs) (teB X scope elt) (own.map (·.2)) σv H Q := by
  refine (hi.run W tk m S σ σv H _ rs re p.bnd).mono ?_
  rintro J H1 ⟨it, S1, m1, rs1, ji, x1, q1⟩
  intro D0 hD
  obtain ⟨xp, rsp, gp⟩ := rs1.push (o := .lst []) (u := .lst []) hD (fun m' H' x => ⟨[], rfl, by simp only [RDs]⟩)
  refine ⟨fun i n H' => ∃ m S, RS X.K m S H' ∧ Ext (m1 ++ [D0]) (upd H1 D0 (.lst [])) m H' ∧ PostG X.K X.mg m H' (lcL it t tt f S1.n (wipeE σ (own.map (·.2))) n i S) (fun _ S' m' H'' => P (.loc S1.n) S' m' H'') (fun _ _ _ => False), ⟨cnt it S1, m1 ++ [D0], S1.push (.lst []), rsp, .refl _ _, ?_⟩, ?_⟩
  · have q2 := PostG.ext q1 xp
    cases el : lcL it t tt f S1.n (wipeE σ (own.map (·.2))) (cnt it S1) 0 (S1.push (.lst [])) with
    | ok u S' => simp only [el] at q2; exact q2
    | exc y S' => simp only [el] at q2; exact q2.elim
    | bad => simp only [el] at q2; exact q2
  · rintro i n H' ⟨m2, S2, rs2, x2, q2⟩
    have gn : m2[S1.n]? = some D0 := pre_get x2.pre gp
    cases n with
    | zero => exact q2.elim
    | succ n =>
      unfold lcL at q2
      cases en : nxt it i S2 with
      | none => rw [en] at q2; exact q2.elim
      | some o =>
        rw [en] at q2
        cases o with
        | none =>
          refine .inl ⟨ji.stop m2 S2 H' i (xp.trans x2) rs2 en, hQ _ _ ⟨.loc S1.n, S2, m2, rs2, ?_, (x1.trans xp).trans x2, q2 m2 H' (.refl _ _) rs2⟩⟩
          simp only [RD]
          exact ⟨D0, rfl, gn⟩
        | some d =>
          obtain ⟨g1, g2⟩ := ji.go m2 S2 H' i d (xp.trans x2) rs2 en
          refine .inr ⟨g1, fun H'' => ∃ m S, RS X.K m S H'' ∧ Ext (m1 ++ [D0]) (upd H1 D0 (.lst [])) m H'' ∧ PostG X.K X.mg m H'' (lcL it t tt f S1.n (wipeE σ (own.map (·.2))) n (i + 1) S) (fun _ S' m' H'' => P (.loc S1.n) S' m' H'') (fun _ _ _ => False), fun H'' h => ⟨n, Nat.lt_succ_self _, h⟩, fun x H3 hy => ?_⟩
          obtain ⟨rs3, x3, rd3⟩ := g2 x H3 hy
          have re3 : RE X.K m2 H3 (wipeE σ (own.map (·.2))) (L2.wipe σv (own.map (·.2))) := (((re.mono x1).mono xp).mono (x2.trans x3)).wipe _
          cases et : t d (wipeE σ (own.map (·.2))) with
          | none => simp only [et] at q2; exact q2.elim
          | some σ3 =>
            simp only [et] at q2
            intro s0 H0 C cl fp
            refine (hg s0 H0 C cl fp).run m2 S2 _ σ3 _ H3 d x _ rs3 re3 rd3 et fun σv3 re4 on => ⟨on.wipe hv, ?_⟩
            intro s1 H1' C1 cl1 fp1 pins s I
            have q3 := PostG.ext q2 x3
            have q4 : PostG X.K X.mg m2 H3 (tt σ3 S2) (fun k S4 m4 H4 => match k with
                | false => PostG X.K X.mg m4 H4 (lcL it t tt f S1.n (wipeE σ (own.map (·.2))) n (i + 1) S4) (fun _ S' m' H'' => P (.loc S1.n) S' m' H'') (fun _ _ _ => False)
                | true => PostG X.K X.mg m4 H4 (f σ3 S4) (fun y S5 m5 H5 => ∃ acc, S5.get S1.n = some (.lst acc) ∧ acc.length < sizeLine ∧ PostG X.K X.mg m5 H5 (lcL it t tt f S1.n (wipeE σ (own.map (·.2))) n (i + 1) (S5.set S1.n (.lst (acc ++ [y])))) (fun _ S' m' H'' => P (.loc S1.n) S' m' H'') (fun _ _ _ => False)) (fun _ _ _ => False)) (fun _ _ _ => False) := by
              cases e1 : tt σ3 S2 with
              | bad => simp only [e1] at q3; exact q3
              | exc y S4 => simp only [e1] at q3; exact q3.elim
              | ok k S4 =>
                cases k with
                | false => simp only [e1] at q3; exact fun m' H'' x' rs' => PostG.ext q3 x'
                | true =>
                  simp only [e1] at q3
                  intro m4 H4 x4 rs4
                  show PostG X.K X.mg m4 H4 (f σ3 S4) _ _
                  cases e2 : f σ3 S4 with
                  | bad => simp only [e2] at q3; exact q3
                  | exc y S5 => simp only [e2] at q3; exact q3.elim
                  | ok y S5 =>
                    simp only [e2] at q3
                    intro m5 H5 x5 rs5
                    cases e3 : S5.get S1.n with
                    | none => simp only [e3] at q3; exact q3.elim
                    | some o5 =>
                      cases o5 with
                      | lst acc =>
                        simp only [e3] at q3
                        cases e4 : Nat.blt acc.length sizeLine with
                        | false => simp only [e4] at q3; exact q3.elim
                        | true =>
                          simp only [e4] at q3
                          exact ⟨acc, rfl, Nat.le_of_ble_eq_true e4, PostG.ext q3 (x4.trans x5)⟩
                      | fz _ => simp only [e3] at q3; exact q3.elim
                      | dK _ => simp only [e3] at q3; exact q3.elim
                      | dT _ => simp only [e3] at q3; exact q3.elim
                      | fd _ => simp only [e3] at q3; exact q3.elim
            refine thn ((ht s1 H1' C1 cl1 fp1).run (fun _ _ _ _ => False) takes0 m2 S2 σ3 σv3 H3 _ rs3 re4 q4 pins s I) ?_
            rintro k s4 ⟨H4, I4, S4, m4, rs4, x4, q5⟩
            refine ⟨H4, I4, ?_⟩
            cases k with
            | false => exact iteF ⟨m4, S4, rs4, (x2.trans x3).trans x4, q5⟩
            | true =>
              refine iteT ?_
              intro s5 H5' C5 cl5 fp5
              refine ((he s5 H5' C5 cl5 fp5).run (fun _ _ _ _ => False) takes0 m4 S4 σ3 σv3 H4 _ rs4 (re4.mono x4) q5).mono ?_
              rintro y H5 ⟨d5, S5, m5, rs5, rd5, x5, acc, ea, hl, q6⟩
              have gn5 : m5[S1.n]? = some D0 := pre_get (x4.trans x5).pre (pre_get (x3.pre) gn)
              obtain ⟨ws, hw, rr⟩ := rs5.obj gn5 ea
              obtain ⟨x6, rs6⟩ := rs5.set (o := .lst (acc ++ [d5])) (u := .lst (ws ++ [y])) gn5 ea hw (fun _ z => nomatch z) (fun _ _ z => nomatch z) (fun m' H'' x' => ⟨_, rfl, RDs.snoc (RDs.mono x' _ _ rr) (RD.mono x' _ _ rd5)⟩)
              exact ⟨ws, hw, by rw [← rr.length]; exact hl, m5, _, rs6, (((x2.trans x3).trans x4).trans x5).trans x6, PostG.ext q6 x6⟩
end
end L2.Z

set_option Elab.async false
set_option linter.all false
set_option maxRecDepth 100000
set_option maxHeartbeats 4000000
/-! Z7: comprehensions as expressions and statements; operations by values. -/
namespace L2.Z
open PySem PySem.Spec PyProof.Rows
variable [HasT]
section
variable {X : Cx} {elt tg iter : Expr} {ifs : List Expr} {scope : Scope} {pos : Pos} {src : Env → M Itm} {vs : List Nat} {t : Tg} {tt : Env → M Bool} {f : Env → M D}
theorem pgB : ∀ (s : Shared) (H : Hp) (C : Addr) (cl : List (Str × Addr)) (fp : List Addr), PG (X.blk s H scope (compEnvC scope cl C X.env) fp) tg (gB X scope tg) := fun s H C cl fp => ⟨fun pins s1 σ H1 v u Q I r h => h s H C cl fp pins s1 u I r⟩
theorem ptB : ∀ (s : Shared) (H : Hp) (C : Addr) (cl : List (Str × Addr)) (fp : List Addr), PTs (X.blk s H scope (compEnvC scope cl C X.env) fp) ifs (ttB X scope ifs) := fun s H C cl fp => ⟨fun pins s1 σ H1 Q I h => h s H C cl fp pins s1 I⟩
theorem peB : ∀ (s : Shared) (H : Hp) (C : Addr) (cl : List (Str × Addr)) (fp : List Addr), PE (X.blk s H scope (compEnvC scope cl C X.env) fp) elt (teB X scope elt) := fun s H C cl fp => ⟨fun pins s1 σ H1 Q I h => h s H C cl fp pins s1 I⟩
theorem q_lc (own : List (Str × Nat)) (hc : X.calm = true) (hN : X.N.Nodup) (hi : QI X tg iter src) (ok : BlkOk X.N X.env.scope scope own) (hg : ∀ s H C cl fp, QG (Bk X scope s H C cl fp) tg vs t) (ht : ∀ s H C cl fp, QTs (Bk X scope s H C cl fp) ifs tt) (he : ∀ s H C cl fp, QE (Bk X scope s H C cl fp) elt f)
    (hv : ∀ i ∈ vs, i ∈ own.map (·.2)) (hs : ∀ x, foldedSetIterable iter X.env x = pure x := by intro _; rfl) : QE X (.ListComp elt [⟨tg, iter, ifs, 0⟩] scope pos) (eLc (own.map (·.2)) src t tt f) := ⟨fun W tk m S σ σv H P rs re p =>
  wE.of (pe_lc hc hN (piw tg iter) ok pgB ptB peB hs) (lc_reads hi hg ht he hv tk rs re p fun _ _ h => h)⟩
theorem qs_setLc (i : Nat) (own : List (Str × Nat)) {y : Str} {py spos : Pos} (hc : X.calm = true) (hN : X.N.Nodup) (hi : QI X tg iter src) (ok : BlkOk X.N X.env.scope scope own) (hg : ∀ s H C cl fp, QG (Bk X scope s H C cl fp) tg vs t) (ht : ∀ s H C cl fp, QTs (Bk X scope s H C cl fp) ifs tt) (he : ∀ s H C cl fp, QE (Bk X scope s H C cl fp) elt f)
    (hv : ∀ i ∈ vs, i ∈ own.map (·.2)) (hsw : swapsWith (.ListComp elt [⟨tg, iter, ifs, 0⟩] scope pos) (some (.Name y py)) spos.line X.env = pure true) (hy : X.N[i]? = some y := by kernel_rfl) (hyl : X.env.scope.names.lookup y = some .local := by kernel_rfl)
    (hs : ∀ x, foldedSetIterable iter X.env x = pure x := by intro _; rfl) : QS X (.Assign [.Name y py] (.ListComp elt [⟨tg, iter, ifs, 0⟩] scope pos) spos) (sSet i (eLc (own.map (·.2)) src t tt f)) := ⟨fun W tk m S σ σv H Dn rs re p => by
  refine wS.of (ps_setLc hc hN hy hyl hsw (piw tg iter) ok pgB ptB peB hs) ?_
  refine lc_reads hi hg ht he hv tk rs re (PostS.sE re p) ?_
  rintro v H1 ⟨d, S1, m1, rs1, r1, x1, q1⟩
  exact q1 m1 H1 _ (.refl _ _) rs1 ((re.mono x1).set r1 i)⟩
end

/-! ### ints -/
def iF (g : Int → Int → Option D) : F2 := fun x y S => match x, y with
  | .int i, .int j => (g i j).map fun d => (d, S)
  | _, _ => none
theorem iF_some {g : Int → Int → Option D} {x y : D} {S S' : Sto} {d : D} (h : iF g x y S = some (d, S')) : ∃ i j, x = .int i ∧ y = .int j ∧ g i j = some d ∧ S' = S := by
  unfold iF at h
  split at h
  · rename_i i j
    cases e : g i j with
    | none => rw [e] at h; cases h
    | some d' => rw [e] at h; cases h; exact ⟨i, j, rfl, rfl, e, rfl⟩
  · cases h
def fSub : F2 := iF fun i j => some (.int (i - j))
def fMod0 : F2 := iF fun i j => match decide (0 < j) with
  | true => some (.int (i % j))
  | false => none
def fDiv0 : F2 := iF fun i j => match decide (0 < j) && decide (j < 1073741824) with
  | true => some (.int (i / j))
  | false => none
@[irreducible] def fMod : F2 := fMod0
theorem fMod_eq : fMod = fMod0 := by unfold fMod; rfl
@[irreducible] def fDiv : F2 := fDiv0
theorem fDiv_eq : fDiv = fDiv0 := by unfold fDiv; rfl
def small64 (i : Int) : Bool := decide (-(2 ^ 64) < i) && decide (i < 2 ^ 64)
def fPow0 : F2 := iF fun i j => match decide (0 ≤ j) && decide (j ≤ 1000000) && decide (i.natAbs < 2 ^ 64) with
  | true => some (.int (i ^ j.toNat))
  | false => none
@[irreducible] def fPow : F2 := fPow0
theorem fPow_eq : fPow = fPow0 := by unfold fPow; rfl
def fLt : F2 := iF fun i j => some (.bl (decide (i < j)))
def fLe : F2 := iF fun i j => some (.bl (decide (i ≤ j)))
def fGt : F2 := iF fun i j => some (.bl (decide (j < i)))
def fGe : F2 := iF fun i j => some (.bl (decide (j ≤ i)))
section
variable {X : Cx}
theorem r_int {F : Value → Value → Sem Value} {C : Int → Int → Prop} {k : Int → Int → V} {g : Int → Int → Option D} (ho : OpR X F (rI C k)) (h : ∀ i j d, g i j = some d → C i j ∧ ∀ m H, RD X.K m H d (k i j)) : OpR X F (rF2 X.K (iF g)) := by
  intro pins s σ H x y v u Q I rx ry q
  obtain ⟨m, S, d1, d2, d, S', rs, r1, r2, e, fin⟩ := q
  obtain ⟨i, j, rfl, rfl, eg, rfl⟩ := iF_some e
  simp only [RD] at r1 r2
  obtain ⟨hC, hk⟩ := h i j d eg
  exact ho pins s σ H x y v u Q I rx ry ⟨i, j, r1, r2, hC, fin m H _ (.refl _ _) rs (hk m H)⟩
theorem r_int0 {F : Value → Value → Sem Value} {k : Int → Int → V} {g : Int → Int → Option D} (ho : OpR X F (rI0 k)) (h : ∀ i j d, g i j = some d → ∀ m H, RD X.K m H d (k i j)) : OpR X F (rF2 X.K (iF g)) := by
  intro pins s σ H x y v u Q I rx ry q
  obtain ⟨m, S, d1, d2, d, S', rs, r1, r2, e, fin⟩ := q
  obtain ⟨i, j, rfl, rfl, eg, rfl⟩ := iF_some e
  simp only [RD] at r1 r2
  exact ho pins s σ H x y v u Q I rx ry ⟨i, j, r1, r2, fin m H _ (.refl _ _) rs (h i j d eg m H)⟩
theorem r_sub : OpR X (binaryOp .Sub) (rF2 X.K fSub) := r_int0 op_sub fun i j d e m H => by cases e; simp only [RD]
theorem r_mod0 : OpR X (binaryOp .Mod) (rF2 X.K fMod0) := r_int op_mod fun i j d e => by
  cases h : decide (0 < j) with
  | false => rw [h] at e; cases e
  | true => rw [h] at e; cases e; exact ⟨of_decide_eq_true h, fun m H => by simp only [RD]⟩
theorem r_mod : OpR X (binaryOp .Mod) (rF2 X.K fMod) := by rw [fMod_eq]; exact r_mod0
theorem r_fdiv0 : OpR X (binaryOp .FloorDiv) (rF2 X.K fDiv0) := r_int op_fdiv fun i j d e => by
  cases h : (decide (0 < j) && decide (j < 1073741824)) with
  | false => rw [h] at e; cases e
  | true =>
    rw [h] at e; cases e
    have h2 := Bool.and_eq_true_iff.mp h
    exact ⟨⟨of_decide_eq_true h2.1, of_decide_eq_true h2.2⟩, fun m H => by simp only [RD]⟩
theorem r_fdiv : OpR X (binaryOp .FloorDiv) (rF2 X.K fDiv) := by rw [fDiv_eq]; exact r_fdiv0
theorem r_pow0 : OpR X (binaryOp .Pow) (rF2 X.K fPow0) := r_int op_pow fun i j d e => by
  cases h : (decide (0 ≤ j) && decide (j ≤ 1000000) && decide (i.natAbs < 2 ^ 64)) with
  | false => rw [h] at e; cases e
  | true =>
    rw [h] at e; cases e
    have h2 := Bool.and_eq_true_iff.mp h
    have h3 := Bool.and_eq_true_iff.mp h2.1
    exact ⟨⟨of_decide_eq_true h3.1, of_decide_eq_true h3.2, of_decide_eq_true h2.2⟩, fun m H => by simp only [RD]⟩
theorem r_pow : OpR X (binaryOp .Pow) (rF2 X.K fPow) := by rw [fPow_eq]; exact r_pow0
theorem r_lt : OpR X (compareOp .Lt) (rF2 X.K fLt) := r_int0 op_lt fun i j d e m H => by cases e; simp only [RD]
theorem r_le : OpR X (compareOp .LtE) (rF2 X.K fLe) := r_int0 op_le fun i j d e m H => by cases e; simp only [RD]
theorem r_gt : OpR X (compareOp .Gt) (rF2 X.K fGt) := r_int0 op_gt fun i j d e m H => by cases e; simp only [RD]
theorem r_ge : OpR X (compareOp .GtE) (rF2 X.K fGe) := r_int0 op_ge fun i j d e m H => by cases e; simp only [RD]
theorem b_iF {g : Int → Int → Option D} (h : ∀ i j d, g i j = some d → ∃ b, d = .bl b) : BoolF (iF g) := fun x y S d S' e => by
  obtain ⟨i, j, _, _, eg, _⟩ := iF_some e
  exact h i j d eg
theorem b_lt : BoolF fLt := b_iF fun i j d e => by cases e; exact ⟨_, rfl⟩
theorem b_le : BoolF fLe := b_iF fun i j d e => by cases e; exact ⟨_, rfl⟩
theorem b_gt : BoolF fGt := b_iF fun i j d e => by cases e; exact ⟨_, rfl⟩
theorem b_ge : BoolF fGe := b_iF fun i j d e => by cases e; exact ⟨_, rfl⟩
end

/-! ### +, * : ints, texts, tuples, lists -/
def fAdd : F2 := fun x y S => match x, y with
  | .int i, .int j => some (.int (i + j), S)
  | .str a, .str b => match Nat.ble (a.length + b.length) sizeLine with
    | true => some (.str (a ++ b), S)
    | false => none
  | .tup xs, .tup ys => match Nat.ble (xs.length + ys.length) sizeLine with
    | true => some (.tup (xs ++ ys), S)
    | false => none
  | .loc a, .loc b => match S.get a, S.get b with
    | some (.lst xs), some (.lst ys) => match Nat.ble (xs.length + ys.length) sizeLine with
      | true => some (.loc S.n, S.push (.lst (xs ++ ys)))
      | false => none
    | _, _ => none
  | _, _ => none
@[irreducible] def fMul : F2 := fun x y S => match x, y with
  | .int i, .int j => match small64 i || small64 j with
    | true => some (.int (i * j), S)
    | false => none
  | .loc a, .int k => match S.get a with
    | some (.lst xs) => match decide (-(2 ^ 63) ≤ k) && decide (k < 2 ^ 63) && Nat.ble (xs.length * k.toNat) sizeLine with
      | true => some (.loc S.n, S.push (.lst (List.replicate k.toNat xs).flatten))
      | false => none
    | _ => none
  | .tup xs, .int k => match !xs.isEmpty && decide (2 ≤ k) && decide (k ≤ 1000) && Nat.ble xs.length 1000 with
    | true => some (.tup (List.replicate k.toNat xs).flatten, S)
    | false => none
  | _, _ => none
theorem RDs.append {K : PySem.W.Frag} {m : List Addr} {H : Hp} : ∀ {ds es : List D} {vs ws : List V}, RDs K m H ds vs → RDs K m H es ws → RDs K m H (ds ++ es) (vs ++ ws)
  | [], es, vs, ws, h, q => by simp only [RDs] at h; subst h; exact q
  | d0 :: ds, es, vs, ws, h, q => by
    simp only [RDs] at h
    obtain ⟨v0, r, rfl, q0, t⟩ := h
    simp only [List.cons_append, RDs]
    exact ⟨v0, r ++ ws, rfl, q0, RDs.append t q⟩
theorem RDs.rep {K : PySem.W.Frag} {m : List Addr} {H : Hp} {ds : List D} {vs : List V} (h : RDs K m H ds vs) : ∀ n : Nat, RDs K m H (List.replicate n ds).flatten (List.replicate n vs).flatten
  | 0 => by simp only [List.replicate_zero, List.flatten_nil, RDs]
  | n + 1 => by
    rw [List.replicate_succ, List.replicate_succ, List.flatten_cons, List.flatten_cons]
    exact RDs.append h (RDs.rep h n)
section
variable {X : Cx}
theorem newLst {K : PySem.W.Frag} {m : List Addr} {S : Sto} {H : Hp} {ds : List D} {vs : List V} {Q : VK} (rs : RS K m S H) (r : RDs K m H ds vs) (fin : ∀ m' H' v, Ext m H m' H' → RS K m' (S.push (.lst ds)) H' → RD K m' H' (.loc S.n) v → Q v H') : ∀ p, H p = none → Q (.ref p) (upd H p (.lst vs)) := fun p hp => by
  obtain ⟨x3, rs3, g3⟩ := rs.push (o := .lst ds) (u := .lst vs) hp (fun m' H' x => ⟨vs, rfl, RDs.mono x _ _ r⟩)
  exact fin _ _ _ x3 rs3 (by simp only [RD]; exact ⟨p, rfl, g3⟩)
theorem newTup {K : PySem.W.Frag} {m : List Addr} {S : Sto} {H : Hp} {ds : List D} {vs : List V} {Q : VK} (rs : RS K m S H) (r : RDs K m H ds vs) (fin : ∀ m' H' v, Ext m H m' H' → RS K m' S H' → RD K m' H' (.tup ds) v → Q v H') : ∀ p, H p = none → Q (.ref p) (upd H p (.tup vs)) := fun p hp =>
  fin m _ _ (.new hp) (rs.new hp) (RD.newTup hp r)
theorem RDs.nil_iff {K : PySem.W.Frag} {m : List Addr} {H : Hp} {ds : List D} {vs : List V} (r : RDs K m H ds vs) : ds = [] ↔ vs = [] := by
  have := r.length
  constructor
  · intro e
    subst e
    exact List.eq_nil_of_length_eq_zero this.symm
  · intro e
    subst e
    exact List.eq_nil_of_length_eq_zero this
theorem r_add : OpR X (binaryOp .Add) (rF2 X.K fAdd) := by
  intro pins s σ H x y v u Q I rx ry q
  obtain ⟨m, S, d1, d2, d, S', rs, r1, r2, e, fin⟩ := q
  unfold fAdd at e
  split at e
  · cases e
    simp only [RD] at r1 r2
    exact op_add pins s σ H x y v u Q I rx ry ⟨_, _, r1, r2, fin m H _ (.refl _ _) rs (by simp only [RD])⟩
  · split at e
    · rename_i hl
      cases e
      simp only [RD] at r1 r2
      exact op_add_str pins s σ H x y v u Q I rx ry ⟨_, _, r1, r2, Nat.le_of_ble_eq_true hl, fin m H _ (.refl _ _) rs (by simp only [RD])⟩
    · cases e
  · rename_i xs ys
    split at e
    · rename_i hl
      cases e
      simp only [RD] at r1 r2
      obtain ⟨a, vs, rfl, hq, rr⟩ := r1
      obtain ⟨b, ws, rfl, hq', rr'⟩ := r2
      refine op_catA pins s σ H _ _ v u Q I rx ry ⟨a, b, vs, ws, rfl, rfl, hq, hq', by rw [← rr.length, ← rr'.length]; exact Nat.le_of_ble_eq_true hl, fun e => ?_, fun n e => ?_, fun n n' => ?_⟩
      · refine fin m H _ (.refl _ _) rs ?_
        rw [rr.nil_iff.mpr e, List.nil_append]
        simp only [RD]
        exact ⟨b, ws, rfl, hq', rr'⟩
      · refine fin m H _ (.refl _ _) rs ?_
        rw [rr'.nil_iff.mpr e, List.append_nil]
        simp only [RD]
        exact ⟨a, vs, rfl, hq, rr⟩
      · exact newTup rs (rr.append rr') fin
    · cases e
  · rename_i a b
    split at e
    · rename_i xs ys e1 e2
      split at e
      · rename_i hl
        cases e
        simp only [RD] at r1 r2
        obtain ⟨a', rfl, hm⟩ := r1
        obtain ⟨b', rfl, hm'⟩ := r2
        obtain ⟨vs, h1, t1⟩ := rs.obj hm e1
        obtain ⟨ws, h2, t2⟩ := rs.obj hm' e2
        exact op_cat pins s σ H _ _ v u Q I rx ry ⟨a', b', vs, ws, rfl, rfl, h1, h2, by rw [← t1.length, ← t2.length]; exact Nat.le_of_ble_eq_true hl, newLst rs (t1.append t2) fin⟩
      · cases e
    · cases e
  · cases e
theorem r_mul : OpR X (binaryOp .Mult) (rF2 X.K fMul) := by
  intro pins s σ H x y v u Q I rx ry q
  obtain ⟨m, S, d1, d2, d, S', rs, r1, r2, e, fin⟩ := q
  unfold fMul at e
  split at e
  · split at e
    · rename_i hl
      cases e
      simp only [RD] at r1 r2
      refine op_mul pins s σ H x y v u Q I rx ry ⟨_, _, r1, r2, ?_, fin m H _ (.refl _ _) rs (by simp only [RD])⟩
      rcases Bool.or_eq_true_iff.mp hl with h | h
      · have h2 := Bool.and_eq_true_iff.mp h; exact .inl ⟨of_decide_eq_true h2.1, of_decide_eq_true h2.2⟩
      · have h2 := Bool.and_eq_true_iff.mp h; exact .inr ⟨of_decide_eq_true h2.1, of_decide_eq_true h2.2⟩
    · cases e
  · split at e
    · rename_i xs e1
      split at e
      · rename_i hl
        cases e
        simp only [RD] at r1 r2
        obtain ⟨a', rfl, hm⟩ := r1
        obtain ⟨vs, h1, t1⟩ := rs.obj hm e1
        have h2 := Bool.and_eq_true_iff.mp hl
        have h3 := Bool.and_eq_true_iff.mp h2.1
        exact op_rep pins s σ H _ _ v u Q I rx ry ⟨a', _, vs, rfl, r2, h1, of_decide_eq_true h3.1, of_decide_eq_true h3.2, by rw [← t1.length]; exact Nat.le_of_ble_eq_true h2.2, newLst rs (t1.rep _) fin⟩
      · cases e
    · cases e
  · rename_i xs k
    split at e
    · rename_i hl
      cases e
      simp only [RD] at r1 r2
      obtain ⟨a', vs, rfl, hq, t1⟩ := r1
      have h2 := Bool.and_eq_true_iff.mp hl
      have h3 := Bool.and_eq_true_iff.mp h2.1
      have h4 := Bool.and_eq_true_iff.mp h3.1
      refine op_repT pins s σ H _ _ v u Q I rx ry ⟨a', _, vs, rfl, r2, hq, fun z => ?_, of_decide_eq_true h4.2, of_decide_eq_true h3.2, by rw [← t1.length]; exact Nat.le_of_ble_eq_true h2.2, newTup rs (t1.rep _) fin⟩
      have := t1.nil_iff.mpr z
      rw [this] at h4
      exact absurd h4.1 (by decide)
    · cases e
  · cases e
end
end L2.Z

set_option Elab.async false
set_option linter.all false
set_option maxRecDepth 100000
set_option maxHeartbeats 4000000
/-! Z8: equality, is, in, subscripts, slices, isinstance, len. -/
namespace L2.Z
open PySem PySem.Spec PyProof.Rows
variable [HasT]

def toPDs (f : D → Option PyData) : List D → Option (List PyData)
  | [] => some []
  | d :: ds => match f d with
    | none => none
    | some p => match toPDs f ds with
      | none => none
      | some ps => some (p :: ps)
def toPD0 : D → Option PyData
  | .non => some .none
  | .bl b => some (.bool b)
  | .int i => some (.int i)
  | .str x => match PyData.strOk x with
    | true => some (.str x)
    | false => none
  | _ => none
def toPD : Nat → Sto → D → Option PyData
  | 0, _, d => toPD0 d
  | n + 1, S, d => match d with
    | .tup xs => (toPDs (toPD n S) xs).map .tuple
    | .loc k => (lstAt S k).bind fun xs => (toPDs (toPD n S) xs).map .list
    | .scr ns => some (.list (ns.map .int))
    | d => toPD0 d
theorem toPD0_dp {K : PySem.W.Frag} {m : List Addr} {H : Hp} {d : D} {v : V} {p : PyData} (r : RD K m H d v) (e : toPD0 d = some p) : Dp K H v p ∧ p.canLay0 = true ∧ p.depth = 0 := by
  unfold toPD0 at e
  split at e
  · cases e; simp only [RD] at r; subst r; exact ⟨.non, by simp [PyData.canLay0], by simp [PyData.depth]⟩
  · cases e; simp only [RD] at r; subst r; exact ⟨.bl _, by simp [PyData.canLay0], by simp [PyData.depth]⟩
  · cases e; simp only [RD] at r; subst r; exact ⟨.int _, by simp [PyData.canLay0], by simp [PyData.depth]⟩
  · split at e
    · rename_i h
      cases e; simp only [RD] at r; subst r; exact ⟨.str _, by simpa [PyData.canLay0] using h, by simp [PyData.depth]⟩
    · cases e
  · cases e
theorem toPDs_dp {K : PySem.W.Frag} {m : List Addr} {H : Hp} {f : D → Option PyData} {n : Nat} (hf : ∀ d v p, RD K m H d v → f d = some p → Dp K H v p ∧ p.canLay0 = true ∧ p.depth ≤ n) : ∀ {ds : List D} {vs : List V} {ps : List PyData}, RDs K m H ds vs → toPDs f ds = some ps → DpAll K H vs ps ∧ PyData.canLayAll0 ps = true ∧ PyData.depthAll ps ≤ n
  | [], vs, ps, r, e => by
    simp only [RDs] at r; subst r
    cases e
    exact ⟨.nil, by simp [PyData.canLayAll0], by simp [PyData.depthAll]⟩
  | d :: ds, vs, ps, r, e => by
    simp only [RDs] at r
    obtain ⟨v, vs', rfl, rd, rr⟩ := r
    unfold toPDs at e
    split at e
    · cases e
    · rename_i p ep
      split at e
      · cases e
      · rename_i ps' eps
        cases e
        obtain ⟨h1, h2, h3⟩ := hf d v p rd ep
        obtain ⟨g1, g2, g3⟩ := toPDs_dp hf rr eps
        exact ⟨.cons h1 g1, by simp [PyData.canLayAll0, h2, g2], by simp [PyData.depthAll]; omega⟩
theorem toPD_dp {K : PySem.W.Frag} {m : List Addr} {S : Sto} {H : Hp} (rs : RS K m S H) : ∀ (n : Nat) (d : D) (v : V) (p : PyData), RD K m H d v → toPD n S d = some p → Dp K H v p ∧ p.canLay0 = true ∧ p.depth ≤ n
  | 0, d, v, p, r, e => by
    obtain ⟨h1, h2, h3⟩ := toPD0_dp r e
    exact ⟨h1, h2, by omega⟩
  | n + 1, d, v, p, r, e => by
    unfold toPD at e
    split at e
    · rename_i xs
      cases es : toPDs (toPD n S) xs with
      | none => rw [es] at e; cases e
      | some ps =>
        rw [es] at e
        cases e
        simp only [RD] at r
        obtain ⟨a, vs, rfl, hq, rr⟩ := r
        obtain ⟨h1, h2, h3⟩ := toPDs_dp (toPD_dp rs n) rr es
        exact ⟨.tup hq h1, by simpa [PyData.canLay0] using h2, by simp [PyData.depth]; omega⟩
    · rename_i k
      cases el : lstAt S k with
      | none => rw [el] at e; cases e
      | some xs =>
        rw [el] at e
        cases es : toPDs (toPD n S) xs with
        | none => simp only [es, Option.bind_some] at e; cases e
        | some ps =>
          simp only [es, Option.bind_some] at e
          cases e
          simp only [RD] at r
          obtain ⟨a, rfl, hm⟩ := r
          obtain ⟨vs, hq, rr⟩ := rs.lst hm el
          obtain ⟨h1, h2, h3⟩ := toPDs_dp (toPD_dp rs n) rr es
          exact ⟨.lst hq h1, by simpa [PyData.canLay0] using h2, by simp [PyData.depth]; omega⟩
    · rename_i ns
      cases e
      simp only [RD] at r
      obtain ⟨a, rfl, q⟩ := r
      have hd : ∀ l : List Int, DpAll K H (l.map V.int) (l.map PyData.int) ∧ PyData.canLayAll0 (l.map PyData.int) = true ∧ PyData.depthAll (l.map PyData.int) = 0 := fun l => by
        induction l with
        | nil => exact ⟨.nil, by simp [PyData.canLayAll0], by simp [PyData.depthAll]⟩
        | cons i l ih => exact ⟨.cons (.int i) ih.1, by simp [PyData.canLayAll0, PyData.canLay0, ih.2.1], by simp [PyData.depthAll, PyData.depth, ih.2.2]⟩
      obtain ⟨h1, h2, h3⟩ := hd ns
      exact ⟨.lst q.sq h1, by simpa [PyData.canLay0] using h2, by simp [PyData.depth, h3]⟩
    · obtain ⟨h1, h2, h3⟩ := toPD0_dp r e
      exact ⟨h1, h2, by omega⟩
theorem toPD_ok {K : PySem.W.Frag} {m : List Addr} {S : Sto} {H : Hp} (rs : RS K m S H) {d : D} {v : V} {p : PyData} (r : RD K m H d v) (e : toPD 40 S d = some p) : Dp K H v p ∧ SeqAt.shaped p = true := by
  obtain ⟨h1, h2, h3⟩ := toPD_dp rs 40 d v p r e
  exact ⟨h1, by unfold SeqAt.shaped; rw [h2, decide_eq_true (by omega)]; rfl⟩
def fPD (g : PyData → PyData → Option Bool) : F2 := fun x y S => match toPD 40 S x with
  | none => none
  | some p => match toPD 40 S y with
    | none => none
    | some q => match g p q with
      | some b => some (.bl b, S)
      | none => none
theorem fPD_some {g : PyData → PyData → Option Bool} {x y : D} {S S' : Sto} {d : D} (h : fPD g x y S = some (d, S')) : ∃ p q b, toPD 40 S x = some p ∧ toPD 40 S y = some q ∧ g p q = some b ∧ d = .bl b ∧ S' = S := by
  unfold fPD at h
  split at h
  · cases h
  · rename_i p ep
    split at h
    · cases h
    · rename_i q eq
      split at h
      · rename_i b eb
        cases h
        exact ⟨p, q, b, ep, eq, eb, rfl, rfl⟩
      · cases h
theorem b_fPD (g : PyData → PyData → Option Bool) : BoolF (fPD g) := fun x y S d S' e => by
  obtain ⟨_, _, b, _, _, _, h, _⟩ := fPD_some e
  exact ⟨b, h⟩
def fEq : F2 := fPD fun p q => some (PyData.eqv p q)
def fNe : F2 := fPD fun p q => some (!PyData.eqv p q)
def seqPD : PyData → Option (List PyData)
  | .list ps => some ps
  | .tuple ps => some ps
  | _ => none
def fIn : F2 := fPD fun p q => (seqPD q).map fun ps => ps.any fun z => PyData.eqv z p
def fNotIn : F2 := fPD fun p q => (seqPD q).map fun ps => !ps.any fun z => PyData.eqv z p
section
variable {X : Cx}
theorem r_eq {k : Nat} (hr : Room k X.A) : OpR X (compareOp .Eq) (rF2 X.K fEq) := by
  intro pins s σ H x y v u Q I rx ry h
  obtain ⟨m, S, d1, d2, d, S', rs, r1, r2, e, fin⟩ := h
  obtain ⟨p, q, b, ep, eq, eb, rfl, rfl⟩ := fPD_some e
  cases eb
  obtain ⟨h1, h2⟩ := toPD_ok rs r1 ep
  obtain ⟨g1, g2⟩ := toPD_ok rs r2 eq
  exact op_eqD hr.units pins s σ H x y v u Q I rx ry ⟨p, q, h1, g1, h2, g2, fin m H _ (.refl _ _) rs (by simp only [RD])⟩
theorem r_ne {k : Nat} (hr : Room k X.A) : OpR X (compareOp .NotEq) (rF2 X.K fNe) := by
  intro pins s σ H x y v u Q I rx ry h
  obtain ⟨m, S, d1, d2, d, S', rs, r1, r2, e, fin⟩ := h
  obtain ⟨p, q, b, ep, eq, eb, rfl, rfl⟩ := fPD_some e
  cases eb
  obtain ⟨h1, h2⟩ := toPD_ok rs r1 ep
  obtain ⟨g1, g2⟩ := toPD_ok rs r2 eq
  exact op_neD hr.units pins s σ H x y v u Q I rx ry ⟨p, q, h1, g1, h2, g2, fin m H _ (.refl _ _) rs (by simp only [RD])⟩
theorem room65 {k : Nat} {A : Around} (hr : Room k A) : A.units + 65 < cLine := by have := hr.un; omega
theorem inRoom {A : Around} {xs : List PyData} {d : PyData} (hu : A.units + 65 < cLine) (hd : d.depth ≤ 40) : A.units + 1 + min (PyData.depthAll xs) d.depth < cLine := by
  have := Nat.min_le_right (PyData.depthAll xs) d.depth
  omega
theorem r_in {k : Nat} (hr : Room k X.A) : OpR X (compareOp .In) (rF2 X.K fIn) := by
  intro pins s σ H x y v u Q I rx ry h
  obtain ⟨m, S, d1, d2, d, S', rs, r1, r2, e, fin⟩ := h
  obtain ⟨p, q, b, ep, eq, eb, rfl, rfl⟩ := fPD_some e
  obtain ⟨h1, h2, h3⟩ := toPD_dp rs 40 _ _ _ r1 ep
  obtain ⟨g1, g2, g3⟩ := toPD_dp rs 40 _ _ _ r2 eq
  obtain ⟨as, R1⟩ := Dp.reads I p x v h1 rx
  obtain ⟨bs, R2⟩ := Dp.reads I q y u g1 ry
  cases q with
  | list ps => cases eb; exact SeqAt.in_list_reads R2 R1 (by simpa [PyData.canLay0] using g2) h2 (inRoom (room65 hr) h3) ⟨.bl _, H, I, rfl, fin m H _ (.refl _ _) rs (by simp only [RD])⟩
  | tuple ps => cases eb; exact SeqAt.in_tuple_reads R2 R1 (by simpa [PyData.canLay0] using g2) h2 (inRoom (room65 hr) h3) ⟨.bl _, H, I, rfl, fin m H _ (.refl _ _) rs (by simp only [RD])⟩
  | _ => cases eb
theorem r_notIn {k : Nat} (hr : Room k X.A) : OpR X (compareOp .NotIn) (rF2 X.K fNotIn) := by
  intro pins s σ H x y v u Q I rx ry h
  obtain ⟨m, S, d1, d2, d, S', rs, r1, r2, e, fin⟩ := h
  obtain ⟨p, q, b, ep, eq, eb, rfl, rfl⟩ := fPD_some e
  obtain ⟨h1, h2, h3⟩ := toPD_dp rs 40 _ _ _ r1 ep
  obtain ⟨g1, g2, g3⟩ := toPD_dp rs 40 _ _ _ r2 eq
  obtain ⟨as, R1⟩ := Dp.reads I p x v h1 rx
  obtain ⟨bs, R2⟩ := Dp.reads I q y u g1 ry
  cases q with
  | list ps => cases eb; exact SeqAt.notIn_list_reads R2 R1 (by simpa [PyData.canLay0] using g2) h2 (inRoom (room65 hr) h3) ⟨.bl _, H, I, rfl, fin m H _ (.refl _ _) rs (by simp only [RD])⟩
  | tuple ps => cases eb; exact SeqAt.notIn_tuple_reads R2 R1 (by simpa [PyData.canLay0] using g2) h2 (inRoom (room65 hr) h3) ⟨.bl _, H, I, rfl, fin m H _ (.refl _ _) rs (by simp only [RD])⟩
  | _ => cases eb
end

/-! ### is -/
def isNone : D → Bool
  | .non => true
  | _ => false
def fIs : F2 := fun x y S => match y with
  | .non => some (.bl (isNone x), S)
  | .bl b => match x with
    | .bl a => some (.bl (decide (a = b)), S)
    | _ => none
  | _ => none
def fIsNot : F2 := fun x y S => match y with
  | .non => some (.bl (!isNone x), S)
  | .bl b => match x with
    | .bl a => some (.bl (!decide (a = b)), S)
    | _ => none
  | _ => none
theorem RD.isNone {K : PySem.W.Frag} {m : List Addr} {H : Hp} {d : D} {v : V} (r : RD K m H d v) : decide (v = .non) = Z.isNone d := by
  cases d with
  | non => simp only [RD] at r; subst r; rfl
  | bl b => simp only [RD] at r; subst r; rfl
  | int b => simp only [RD] at r; subst r; rfl
  | str b => simp only [RD] at r; subst r; rfl
  | tup b => simp only [RD] at r; obtain ⟨a, vs, rfl, _⟩ := r; rfl
  | loc b => simp only [RD] at r; obtain ⟨a, rfl, _⟩ := r; rfl
  | xc _ _ _ => simp only [RD] at r; obtain ⟨a, _, _, rfl, _⟩ := r; rfl
  | lam _ _ _ _ _ => simp only [RD] at r; obtain ⟨rfl, _⟩ := r; rfl
  | scr _ => simp only [RD] at r; obtain ⟨a, rfl, _⟩ := r; rfl
section
variable {X : Cx}
theorem r_is : OpR X (compareOp .Is) (rF2 X.K fIs) := by
  intro pins s σ H x y v u Q I rx ry h
  obtain ⟨m, S, d1, d2, d, S', rs, r1, r2, e, fin⟩ := h
  unfold fIs at e
  split at e
  · cases e
    simp only [RD] at r2
    refine op_isN pins s σ H x y v u Q I rx ry ⟨r2, ?_⟩
    rw [r1.isNone]
    exact fin m H _ (.refl _ _) rs (by simp only [RD])
  · split at e
    · cases e
      simp only [RD] at r1 r2
      exact op_is_bl pins s σ H x y v u Q I rx ry ⟨_, _, r1, r2, fin m H _ (.refl _ _) rs (by simp only [RD])⟩
    · cases e
  · cases e
theorem r_isNot : OpR X (compareOp .IsNot) (rF2 X.K fIsNot) := by
  intro pins s σ H x y v u Q I rx ry h
  obtain ⟨m, S, d1, d2, d, S', rs, r1, r2, e, fin⟩ := h
  unfold fIsNot at e
  split at e
  · cases e
    simp only [RD] at r2
    refine op_notN pins s σ H x y v u Q I rx ry ⟨r2, ?_⟩
    rw [r1.isNone]
    exact fin m H _ (.refl _ _) rs (by simp only [RD])
  · split at e
    · cases e
      simp only [RD] at r1 r2
      exact op_isnot_bl pins s σ H x y v u Q I rx ry ⟨_, _, r1, r2, fin m H _ (.refl _ _) rs (by simp only [RD])⟩
    · cases e
  · cases e
theorem b_is : BoolF fIs := fun x y S d S' e => by
  unfold fIs at e
  split at e
  · cases e; exact ⟨_, rfl⟩
  · split at e
    · cases e; exact ⟨_, rfl⟩
    · cases e
  · cases e
theorem b_isNot : BoolF fIsNot := fun x y S d S' e => by
  unfold fIsNot at e
  split at e
  · cases e; exact ⟨_, rfl⟩
  · split at e
    · cases e; exact ⟨_, rfl⟩
    · cases e
  · cases e
end

/-! ### subscripts: tuples, lists, dicts -/
def atD {α : Type} (xs : List α) (i : Int) : Option α := (ixN xs.length i).bind fun j => xs[j]?
def keyOf : D → Option Key
  | .int i => some (.inl i)
  | .str x => some (.inr x)
  | _ => none
def keysOf : List D → Option (List Key)
  | [] => some []
  | d :: ds => match keyOf d with
    | none => none
    | some k => match keysOf ds with
      | none => none
      | some ks => some (k :: ks)
def dGet {κ : Type} [DecidableEq κ] (kvs : List (κ × D)) (k : κ) : Option D := (kvs.find? fun kv => decide (kv.1 = k)).map (·.2)
def fIx : F2 := fun x y S => match x, y with
  | .tup xs, .int i => (atD xs i).map fun d => (d, S)
  | .loc n, .int i => match S.get n with
    | some (.lst xs) => (atD xs i).map fun d => (d, S)
    | some (.fz xs) => (atD xs i).map fun d => (d, S)
    | some (.dK kvs) => (dGet kvs (Sum.inl i)).map fun d => (d, S)
    | some (.fd kvs) => (dGet kvs (Sum.inl i)).map fun d => (d, S)
    | _ => none
  | .loc n, .str z => match S.get n with
    | some (.dK kvs) => (dGet kvs (Sum.inr z)).map fun d => (d, S)
    | some (.fd kvs) => (dGet kvs (Sum.inr z)).map fun d => (d, S)
    | _ => none
  | .str z, .int i => match Nat.ble z.length sizeLine with
    | true => (atD z.cps.toList i).map fun c => (.str ⟨#[c]⟩, S)
    | false => none
  | _, _ => none
theorem atI_D {K : PySem.W.Frag} {m : List Addr} {H : Hp} {xs : List D} {vs : List V} {i : Int} {d : D} (r : RDs K m H xs vs) (e : atD xs i = some d) : ∃ v, atI vs i = some v ∧ RD K m H d v := by
  unfold atD at e
  unfold atI
  rw [r.length] at e
  cases h : ixN vs.length i with
  | none => rw [h] at e; cases e
  | some j =>
    rw [h] at e
    exact r.get e
theorem RKs.val {κ : Type} [DecidableEq κ] {K : PySem.W.Frag} {m : List Addr} {H : Hp} {k : κ} : ∀ {kvs : List (κ × D)} {vs : List (κ × V)}, RKs K m H kvs vs → (dGet kvs k = none ∧ valV vs k = none) ∨ ∃ d v, dGet kvs k = some d ∧ valV vs k = some v ∧ RD K m H d v
  | [], vs, h => by simp only [RKs] at h; subst h; exact .inl ⟨rfl, rfl⟩
  | p :: kvs, vs, h => by
    simp only [RKs] at h
    obtain ⟨v, r, rfl, rd, rr⟩ := h
    by_cases e : p.1 = k
    · exact .inr ⟨p.2, v, by simp [dGet, List.find?_cons, e], valV_pos e, rd⟩
    · have h1 : dGet (p :: kvs) k = dGet kvs k := by simp [dGet, List.find?_cons, e]
      rw [h1, valV_neg e]
      exact RKs.val rr
theorem ix_read {K : PySem.W.Frag} {m : List Addr} {S S' : Sto} {H : Hp} {d1 d2 d : D} {x y : V} {Q : VK} (rs : RS K m S H) (r1 : RD K m H d1 x) (r2 : RD K m H d2 y) (e : fIx d1 d2 S = some (d, S')) (nk : ∀ n o, d1 = .loc n → S.get n = some o → ((∃ kvs, o = .dK kvs) ∨ ∃ kvs, o = .fd kvs) → False)
    (fin : ∀ m' H' v, Ext m H m' H' → RS K m' S' H' → RD K m' H' d v → Q v H') : rIx K x y H Q := by
  unfold fIx at e
  split at e
  · rename_i xs i
    cases ea : atD xs i with
    | none => rw [ea] at e; cases e
    | some dd =>
      rw [ea] at e
      cases e
      simp only [RD] at r1 r2
      obtain ⟨a', vs, rfl, hq, rr⟩ := r1
      obtain ⟨v, ev, rv⟩ := atI_D rr ea
      exact .inr (.inl ⟨a', vs, i, v, rfl, r2, hq, ev, fin m H v (.refl _ _) rs rv⟩)
  · rename_i n i
    have go : ∀ xs, lstAt S n = some xs → (atD xs i).map (fun d => (d, S)) = some (d, S') → rIx K x y H Q := fun xs el e => by
      cases ea : atD xs i with
      | none => rw [ea] at e; cases e
      | some dd =>
        rw [ea] at e
        cases e
        simp only [RD] at r1 r2
        obtain ⟨a', rfl, hm⟩ := r1
        obtain ⟨vs, hq, rr⟩ := rs.lst hm el
        obtain ⟨v, ev, rv⟩ := atI_D rr ea
        exact .inl ⟨a', vs, i, v, rfl, r2, hq, ev, fin m H v (.refl _ _) rs rv⟩
    split at e
    · rename_i xs eg; exact go xs (by simp only [lstAt, eg]) e
    · rename_i xs eg; exact go xs (by simp only [lstAt, eg]) e
    · rename_i kvs eg; exact (nk n _ rfl eg (.inl ⟨kvs, rfl⟩)).elim
    · rename_i kvs eg; exact (nk n _ rfl eg (.inr ⟨kvs, rfl⟩)).elim
    · cases e
  · rename_i n z
    split at e
    · rename_i kvs eg; exact (nk n _ rfl eg (.inl ⟨kvs, rfl⟩)).elim
    · rename_i kvs eg; exact (nk n _ rfl eg (.inr ⟨kvs, rfl⟩)).elim
    · cases e
  · rename_i z i
    split at e
    · rename_i hl
      cases ea : atD z.cps.toList i with
      | none => rw [ea] at e; cases e
      | some c =>
        rw [ea] at e
        cases e
        simp only [RD] at r1 r2
        exact .inr (.inr ⟨z, i, c, r1, r2, Nat.le_of_ble_eq_true hl, ea, fin m H _ (.refl _ _) rs (by simp only [RD])⟩)
    · cases e
  · cases e
section
variable {X : Cx} {a b : Expr} {f g : Env → M D} {pos : Pos}
theorem q_ix {k : Nat} (hr : Room k X.A) (ha : QE X a f) (hb : QE X b g) (hs : PlainIx b := by exact fun _ _ => rfl) (hn : NoSl b := by exact fun _ _ => rfl) : QE X (.Subscript a b pos) (e2 fIx f g) := ⟨fun W tk m S σ σv H P rs re p => by
  cases e1 : f σ S with
  | bad => unfold e2 bnd at p; rw [e1] at p; exact p.elim
  | exc x S1 => exact wE.of (pe_ix (ix_seq (X := X)) (pw a) (pw b) hs) ((ha.run W tk m S σ σv H (fun _ _ _ _ => False) rs re (by unfold e2 bnd at p; rw [e1] at p ⊢; exact p)).mono fun v H' ⟨_, _, _, _, _, _, z⟩ => z.elim)
  | ok d1 S1 =>
    cases e2' : g σ S1 with
    | bad => unfold e2 bnd at p; simp only [e1, e2'] at p; exact p.elim
    | exc x S2 =>
      refine wE.of (pe_ix (ix_seq (X := X)) (pw a) (pw b) hs) ?_
      refine (ha.run W tk m S σ σv H (fun d S' m' H' => S' = S1 ∧ PostG X.K X.mg m' H' (g σ S1) (fun _ _ _ _ => False) (fun c d H' => W c d σv H')) rs re ?_).mono ?_
      · rw [e1]
        intro m' H' x' rs'
        refine ⟨rfl, ?_⟩
        rw [e2']
        unfold e2 bnd at p
        simp only [e1, e2'] at p
        exact PostG.ext p x'
      · rintro v H1 ⟨d, S', m1, rs1, rd, x1, rfl, q⟩
        exact (hb.run W tk m1 S' σ σv H1 _ rs1 (re.mono x1) q).mono fun v H' ⟨_, _, _, _, _, _, z⟩ => z.elim
    | ok d2 S2 =>
      have p2 := two (h := fIx) ha hb tk rs re p
      have pe : ∃ d S', fIx d1 d2 S2 = some (d, S') := by
        unfold e2 bnd up at p
        simp only [e1, e2'] at p
        cases h : fIx d1 d2 S2 with
        | none => rw [h] at p; exact p.elim
        | some q => exact ⟨q.1, q.2, rfl⟩
      -- which kind it is, by the values
      have key : (∃ n o, d1 = .loc n ∧ S2.get n = some o ∧ ((∃ kvs, o = .dK kvs) ∨ ∃ kvs, o = .fd kvs)) ∨ ¬ (∃ n o, d1 = .loc n ∧ S2.get n = some o ∧ ((∃ kvs, o = .dK kvs) ∨ ∃ kvs, o = .fd kvs)) := Classical.em _
      have q2 : wE X a σv H fun x H1 => wE X b σv H1 fun y H2 => ∃ m2, RS X.K m2 S2 H2 ∧ RD X.K m2 H2 d1 x ∧ RD X.K m2 H2 d2 y ∧ ∃ d S', fIx d1 d2 S2 = some (d, S') ∧ ∀ m' H' v, Ext m2 H2 m' H' → RS X.K m' S' H' → RD X.K m' H' d v → GV X.K m H P v H' := by
        refine (ha.run W tk m S σ σv H (fun d S' m' H' => d = d1 ∧ S' = S1) rs re (by rw [e1]; exact fun _ _ _ _ => ⟨rfl, rfl⟩)).mono ?_
        rintro x H1 ⟨_, _, m1, rs1, r1, x1, rfl, rfl⟩
        refine (hb.run W tk m1 _ σ σv H1 (fun d S' m' H' => d = d2 ∧ S' = S2) rs1 (re.mono x1) (by rw [e2']; exact fun _ _ _ _ => ⟨rfl, rfl⟩)).mono ?_
        rintro y H2 ⟨_, _, m2, rs2, r2, x2, rfl, rfl⟩
        obtain ⟨d, S', e⟩ := pe
        refine ⟨m2, rs2, RD.mono x2 _ _ r1, r2, d, S', e, fun m' H' v x' rs' rv => ⟨d, S', m', rs', rv, (x1.trans x2).trans x', ?_⟩⟩
        unfold e2 bnd up at p
        simp only [e1, e2', e] at p
        exact p m' H' ((x1.trans x2).trans x') rs'
      rcases key with ⟨n, o, rfl, en, ho⟩ | nk
      · refine wE.of (pe_dget (hu_of hr) (pw a) (pw b) hn) (q2.mono fun x H1 h => wE.mono h fun y H2 ⟨m2, rs2, r1, r2, d, S', e, fin⟩ => ?_)
        simp only [RD] at r1
        obtain ⟨a', rfl, hm⟩ := r1
        have rd : ∃ kvs vs, Rd H2 a' (.dK vs) ∧ RKs X.K m2 H2 kvs vs ∧ (S2.get n = some (.dK kvs) ∨ S2.get n = some (.fd kvs)) := by
          rcases ho with ⟨kvs, rfl⟩ | ⟨kvs, rfl⟩
          · obtain ⟨vs, h1, h2⟩ := rs2.obj hm en; exact ⟨kvs, vs, .inl h1, h2, .inl en⟩
          · obtain ⟨ob, vs, h1, h2⟩ := rs2.obj hm en; exact ⟨kvs, vs, .inr ⟨ob, h1⟩, h2, .inr en⟩
        obtain ⟨kvs, vs, hR, hK, hg⟩ := rd
        have fi : ∀ key : Key, y = kV key → fIx (.loc n) d2 S2 = (dGet kvs key).map (fun d => (d, S2)) → ∃ a v, V.ref a' = .ref a ∧ DGet H2 a y (some v) ∧ GV X.K m H P v H2 := fun key ey ef => by
          rw [ef] at e
          rcases RKs.val (k := key) hK with ⟨z, _⟩ | ⟨dd, v, h1, h2, h3⟩
          · rw [z] at e; cases e
          · rw [h1] at e
            cases e
            exact ⟨a', v, rfl, .inl ⟨vs, key, hR, ey, h2.symm⟩, fin m2 H2 v (.refl _ _) rs2 h3⟩
        cases d2 with
        | int i =>
          simp only [RD] at r2
          refine fi (Sum.inl i) r2 ?_
          rcases hg with hg | hg <;> simp only [fIx, hg]
        | str z =>
          simp only [RD] at r2
          refine fi (Sum.inr z) r2 ?_
          rcases hg with hg | hg <;> simp only [fIx, hg]
        | _ => simp only [fIx] at e; cases e
      · exact wE.of (pe_ix (ix_seq (X := X)) (pw a) (pw b) hs) (q2.mono fun x H1 h => wE.mono h fun y H2 ⟨m2, rs2, r1, r2, d, S', e, fin⟩ => ix_read rs2 r1 r2 e (fun n o z1 z2 z3 => nk ⟨n, o, z1, z2, z3⟩) fin)⟩
end
end L2.Z

set_option Elab.async false
set_option linter.all false
set_option maxRecDepth 100000
set_option maxHeartbeats 4000000
/-! Z9: slices, isinstance, built-ins, methods of lists, stores to items, dict displays. -/
namespace L2.Z
open PySem PySem.Spec PyProof.Rows
variable [HasT]

/-! ### slices -/
def cutD {α : Type} (xs : List α) (lo hi : Option Int) : List α := (xs.drop (HT.sIx xs.length 0 lo)).take (HT.sIx xs.length xs.length hi - HT.sIx xs.length 0 lo)
def fSl (x : D) (lo hi : Option Int) : Sto → Option (D × Sto) := fun S => match x with
  | .tup xs => some (.tup (cutD xs lo hi), S)
  | .loc n => match S.get n with
    | some (.lst xs) => some (.loc S.n, S.push (.lst (cutD xs lo hi)))
    | some (.fz xs) => some (.loc S.n, S.push (.lst (cutD xs lo hi)))
    | _ => none
  | .str z => match Nat.ble z.length sizeLine with
    | true => some (.str (cutS z lo hi), S)
    | false => none
  | _ => none
theorem RDs.drop {K : PySem.W.Frag} {m : List Addr} {H : Hp} : ∀ {ds : List D} {vs : List V} (n : Nat), RDs K m H ds vs → RDs K m H (ds.drop n) (vs.drop n)
  | ds, vs, 0, h => h
  | [], vs, n + 1, h => by simp only [RDs] at h; subst h; simp only [List.drop_nil, RDs]
  | d :: ds, vs, n + 1, h => by
    simp only [RDs] at h
    obtain ⟨v, r, rfl, _, t⟩ := h
    exact RDs.drop n t
theorem RDs.take {K : PySem.W.Frag} {m : List Addr} {H : Hp} : ∀ {ds : List D} {vs : List V} (n : Nat), RDs K m H ds vs → RDs K m H (ds.take n) (vs.take n)
  | ds, vs, 0, h => by simp only [List.take_zero, RDs]
  | [], vs, n + 1, h => by simp only [RDs] at h; subst h; simp only [List.take_nil, RDs]
  | d :: ds, vs, n + 1, h => by
    simp only [RDs] at h
    obtain ⟨v, r, rfl, q, t⟩ := h
    simp only [List.take_succ_cons, RDs]
    exact ⟨v, r.take n, rfl, q, RDs.take n t⟩
theorem RDs.cut {K : PySem.W.Frag} {m : List Addr} {H : Hp} {ds : List D} {vs : List V} (h : RDs K m H ds vs) (lo hi : Option Int) : RDs K m H (cutD ds lo hi) (cutV vs lo hi) := by
  unfold cutD cutV
  rw [h.length]
  exact (h.drop _).take _
theorem cutD_whole {α : Type} {xs : List α} {lo hi : Option Int} (h : HT.sIx xs.length 0 lo = 0 ∧ HT.sIx xs.length xs.length hi = xs.length) : cutD xs lo hi = xs := by
  unfold cutD
  rw [h.1, h.2]
  simp
abbrev OE := Option (Env → M D)
def oM (o : OE) (σ : Env) : M (Option Int) := match o with
  | none => ret none
  | some g => bnd (g σ) fun d => match d with
    | .int i => ret (some i)
    | _ => bad
def eSl (f : Env → M D) (lo hi : OE) : Env → M D := fun σ => bnd (f σ) fun x => bnd (oM lo σ) fun l => bnd (oM hi σ) fun h => up (fSl x l h)
/-- an optional part -/
def QO (X : Cx) (e : Option Expr) (o : OE) : Prop := match e, o with
  | none, none => True
  | some e, some g => QE X e g
  | _, _ => False
section
variable {X : Cx} {e : Expr} {lo hi : Option Expr} {f : Env → M D} {ol oh : OE} {pos p2 : Pos}
theorem qo_none : QO X none none := trivial
theorem qo_some {g : Env → M D} (h : QE X e g) : QO X (some e) (some g) := h
def wO (X : Cx) (e : Option Expr) (σ : St) (H : Hp) (Q : Option Int → Hp → Prop) : Prop := ∀ pins s, Inv X pins σ H s → wpAny (model X.prog X.w) X.A (evalPart e X.env) (fun u s' => ∃ o H', Inv X pins σ H' s' ∧ IsPart u o ∧ Q o H') X.xe s
theorem pow_ (e : Option Expr) : PO X e (wO X e) := ⟨fun pins s σ H Q I h => h pins s I⟩
theorem qo_run (h : QO X lo ol) {W : WX} (tk : Takes X W) {m : List Addr} {S : Sto} {σ : Env} {σv : St} {H : Hp} {P : Option Int → Sto → List Addr → Hp → Prop} (rs : RS X.K m S H) (re : RE X.K m H σ σv) (p : PostG X.K X.mg m H (oM ol σ S) P (fun c d H' => W c d σv H')) :
    wO X lo σv H (fun o H' => ∃ S' m', RS X.K m' S' H' ∧ Ext m H m' H' ∧ P o S' m' H') := by
  cases lo with
  | none =>
    cases ol with
    | none => exact fun pins s I => po_none.run pins s σv H _ I ⟨S, m, rs, .refl _ _, p m H (.refl _ _) rs⟩
    | some g => exact h.elim
  | some e =>
    cases ol with
    | none => exact h.elim
    | some g =>
      have h : QE X e g := h
      intro pins s I
      refine (po_some (pw e)).run pins s σv H _ I ?_
      refine (h.run W tk m S σ σv H _ rs re (PostG.bnd p)).mono ?_
      rintro v H1 ⟨d, S1, m1, rs1, r1, x1, q1⟩
      cases d with
      | int i =>
        simp only [RD] at r1
        exact ⟨i, r1, S1, m1, rs1, x1, q1 m1 H1 (.refl _ _) rs1⟩
      | _ => exact q1.elim
theorem q_slice (he : QE X e f) (hl : QO X lo ol) (hh : QO X hi oh) : QE X (.Subscript e (.Slice lo hi none p2) pos) (eSl f ol oh) := ⟨fun W tk m S σ σv H P rs re p => by
  refine wE.of (pe_slice (SlR.or sl_tupA (SlR.or sl_list sl_str)) (pw e) (pow_ lo) (pow_ hi)) ?_
  refine (he.run W tk m S σ σv H _ rs re p.bnd).mono ?_
  rintro x H1 ⟨d1, S1, m1, rs1, r1, x1, q1⟩
  intro pins s I
  refine thn (qo_run hl tk rs1 (re.mono x1) q1.bnd pins s I) ?_
  rintro u s2 ⟨l, H2, I2, il, S2, m2, rs2, x2, q2⟩
  refine ⟨l, H2, I2, il, ?_⟩
  intro pins s I
  refine thn (qo_run hh tk rs2 ((re.mono x1).mono x2) q2.bnd pins s I) ?_
  rintro u s3 ⟨h, H3, I3, ih, S3, m3, rs3, x3, q3⟩
  refine ⟨h, H3, I3, ih, ?_⟩
  obtain ⟨d, S', e', fin⟩ := q3.up
  have r3 := RD.mono (x2.trans x3) _ _ r1
  have fin' : ∀ m' H' v, Ext m3 H3 m' H' → RS X.K m' S' H' → RD X.K m' H' d v → GV X.K m H P v H' := fun m' H' v x' rs' rv => ⟨d, S', m', rs', rv, ((x1.trans x2).trans x3).trans x', fin m' H' x' rs'⟩
  have lst : ∀ n xs, d1 = .loc n → lstAt S3 n = some xs → d = .loc S3.n → S' = S3.push (.lst (cutD xs l h)) → rSlL X.K x l h H3 (GV X.K m H P) := fun n xs e1 e2 e3 e4 => by
    subst e1 e3 e4
    simp only [RD] at r3
    obtain ⟨a, rfl, hm⟩ := r3
    obtain ⟨vs, hq, rr⟩ := rs3.lst hm e2
    exact ⟨a, vs, rfl, hq, newLst rs3 (rr.cut l h) fin'⟩
  unfold fSl at e'
  split at e'
  · cases e'
    simp only [RD] at r3
    obtain ⟨a, vs, rfl, hq, rr⟩ := r3
    refine .inl ⟨a, vs, rfl, hq, fun hw => ?_, fun _ => newTup rs3 (rr.cut l h) fin'⟩
    refine fin' m3 H3 _ (.refl _ _) rs3 ?_
    rw [← rr.length] at hw
    rw [cutD_whole hw]
    simp only [RD]
    exact ⟨a, vs, rfl, hq, rr⟩
  · rename_i n
    split at e'
    · rename_i xs eg; cases e'; exact .inr (.inl (lst n xs rfl (by simp only [lstAt, eg]) rfl rfl))
    · rename_i xs eg; cases e'; exact .inr (.inl (lst n xs rfl (by simp only [lstAt, eg]) rfl rfl))
    · cases e'
  · split at e'
    · rename_i hz
      cases e'
      simp only [RD] at r3
      exact .inr (.inr ⟨_, r3, Nat.le_of_ble_eq_true hz, fin' m3 H3 _ (.refl _ _) rs3 (by simp only [RD])⟩)
    · cases e'
  · cases e'⟩
end

/-! ### isinstance(x, T) -/
inductive Ty where
  | int | bool | str | tuple | list | dict
  deriving DecidableEq
def Ty.nm : Ty → String
  | .int => "int" | .bool => "bool" | .str => "str" | .tuple => "tuple" | .list => "list" | .dict => "dict"
def isT (T : Ty) (d : D) (S : Sto) : Option Bool := match d with
  | .non => some false
  | .bl _ => some (match T with | .int => true | .bool => true | _ => false)
  | .int _ => some (match T with | .int => true | _ => false)
  | .str _ => some (match T with | .str => true | _ => false)
  | .tup _ => some (match T with | .tuple => true | _ => false)
  | .loc n => match S.get n with
    | some (.lst _) => some (match T with | .list => true | _ => false)
    | some (.fz _) => some (match T with | .list => true | _ => false)
    | some (.dK _) => some (match T with | .dict => true | _ => false)
    | some (.dT _) => none
    | some (.fd _) => some (match T with | .dict => true | _ => false)
    | none => none
  | .xc _ _ _ => none
  | .lam _ _ _ _ _ => none
  | .scr _ => none
def fIsi (T : Ty) : F1 := fun d S => match isT T d S with
  | some b => some (.bl b, S)
  | none => none
theorem kit_tab : ∀ (T : Ty), kitB "NoneType" T.nm = some false ∧ kitB "bool" T.nm = some (match T with | .int => true | .bool => true | _ => false) ∧ kitB "int" T.nm = some (match T with | .int => true | _ => false) ∧ kitB "str" T.nm = some (match T with | .str => true | _ => false) ∧
    kitB "tuple" T.nm = some (match T with | .tuple => true | _ => false) ∧ kitB "list" T.nm = some (match T with | .list => true | _ => false) ∧ kitB "dict" T.nm = some (match T with | .dict => true | _ => false) := by
  intro T
  cases T <;> decide +kernel
theorem sqT_ty {K : PySem.W.Frag} {H : Hp} {a : Addr} {vs : List V} (h : SqT K H a vs) : TyX K H (.ref a) (.type "tuple") := by
  rcases h with (h | ⟨o, h⟩) | ⟨o, its, n, h1, h2, _⟩
  · exact .base (.tup h)
  · exact .fTuple h
  · exact .kTuple h1 h2
theorem isT_ok {K : PySem.W.Frag} {m : List Addr} {S : Sto} {H : Hp} (rs : RS K m S H) {T : Ty} {d : D} {v : V} {b : Bool} (r : RD K m H d v) (e : isT T d S = some b) : ∃ t, TyX K H v t ∧ PySem.W.kitOne K t (.type T.nm) = some b := by
  obtain ⟨k1, k2, k3, k4, k5, k6, k7⟩ := kit_tab T
  unfold isT at e
  split at e
  · cases e; simp only [RD] at r; subst r; exact ⟨_, .base .non, kit_ty k1⟩
  · cases e; simp only [RD] at r; subst r; exact ⟨_, .base (.bl _), kit_ty k2⟩
  · cases e; simp only [RD] at r; subst r; exact ⟨_, .base (.int _), kit_ty k3⟩
  · cases e; simp only [RD] at r; subst r; exact ⟨_, .base (.str _), kit_ty k4⟩
  · cases e; simp only [RD] at r; obtain ⟨a, vs, rfl, hq, _⟩ := r; exact ⟨_, sqT_ty hq, kit_ty k5⟩
  · rename_i n
    simp only [RD] at r
    obtain ⟨a, rfl, hm⟩ := r
    split at e
    · rename_i xs eg; cases e; obtain ⟨vs, h, _⟩ := rs.obj hm eg; exact ⟨_, .base (.lst h), kit_ty k6⟩
    · rename_i xs eg; cases e; obtain ⟨ob, vs, h, _⟩ := rs.obj hm eg; exact ⟨_, .base (.frz h), kit_ty k6⟩
    · rename_i xs eg; cases e; obtain ⟨vs, h, _⟩ := rs.obj hm eg; exact ⟨_, .base (.dK h), kit_ty k7⟩
    · cases e
    · rename_i xs eg; cases e; obtain ⟨ob, vs, h, _⟩ := rs.obj hm eg; exact ⟨_, .fDict h, kit_ty k7⟩
    · cases e
  · cases e
  · cases e
  · cases e
section
variable {X : Cx} {e : Expr} {f : Env → M D} {p p1 pos : Pos} {x : Str}
theorem q_isi (T : Ty) (hm : X.mg "isinstance" = none) (hmT : X.mg x = none) (hv : bootBuiltins x = some (.type T.nm)) (ha : QE X e f) (hg : glB X.env.scope "isinstance" = true := by kernel_rfl) (hgx : glB X.env.scope x = true := by kernel_rfl)
    (hs : PySem.W.isStarred e = false := by rfl) : QE X (.Call (.Name "isinstance" p) [e, .Name x p1] [] pos) (e1 (fIsi T) f) := ⟨fun W tk m S σ σv H P rs re q => by
  refine wE.of (pe_callB call_isi (glB_ok hg).1 hm boot_isinstance (pa_cons (pw e) (pa_cons (pe_bltn (v := .ty T.nm) (glB_ok hgx).1 hmT hv rfl (glB_ok hgx).2.2 (glB_ok hgx).2.1) pa_nil) (star1 hs)) (glB_ok hg).2.2 (glB_ok hg).2.1 (star1 hs) rfl) ?_
  refine (one (h := fIsi T) ha tk rs re q).mono ?_
  rintro v H1 ⟨m1, S1, d1, d, S', rs1, r1, e', fin⟩
  unfold fIsi at e'
  split at e'
  · rename_i b eb
    cases e'
    obtain ⟨t, ht, hk⟩ := isT_ok rs1 r1 eb
    exact ⟨v, .ty T.nm, t, .type T.nm, b, rfl, .ty _, ht, hk, fin m1 H1 _ (.refl _ _) rs1 (by simp only [RD])⟩
  · cases e'⟩
end

/-! ### built-ins by values -/
def lenD (d : D) (S : Sto) : Option Nat := match d with
  | .tup xs => some xs.length
  | .str z => match Nat.ble z.length sizeLine with
    | true => some z.length
    | false => none
  | .loc n => match S.get n with
    | some (.lst xs) => some xs.length
    | some (.fz xs) => some xs.length
    | some (.dK kvs) => some kvs.length
    | _ => none
  | .scr ns => some ns.length
  | _ => none
def fLen : FL := fun ds S => match ds with
  | [d] => (lenD d S).map fun n => (.int (n : Nat), S)
  | _ => none
def fInt : FL := fun ds S => match ds with
  | [.int i] => some (.int i, S)
  | [.bl k] => some (.int (if k then 1 else 0), S)
  | _ => none
def fList : FL := fun ds S => match ds with
  | [.tup xs] => some (.loc S.n, S.push (.lst xs))
  | [.loc n] => match lstAt S n with
    | some xs => some (.loc S.n, S.push (.lst xs))
    | none => none
  | [.scr ns] => some (.loc S.n, S.push (.lst (ns.map .int)))
  | _ => none
theorem RDs.ints {K : PySem.W.Frag} {m : List Addr} {H : Hp} : ∀ ns : List Int, RDs K m H (ns.map D.int) (ns.map V.int)
  | [] => by simp only [List.map_nil, RDs]
  | n :: ns => by simp only [List.map_cons, RDs, RD]; exact ⟨_, _, rfl, rfl, RDs.ints ns⟩
def fTuple : FL := fun ds S => match ds with
  | [.tup xs] => some (.tup xs, S)
  | [.loc n] => match lstAt S n with
    | some xs => some (.tup xs, S)
    | none => none
  | _ => none
def blsOf : List D → Option (List Bool)
  | [] => some []
  | .bl b :: ds => (blsOf ds).map (b :: ·)
  | _ => none
def intsOf : List D → Option (List Int)
  | [] => some []
  | .int i :: ds => (intsOf ds).map (i :: ·)
  | _ => none
def onLst (g : List D → Option D) : FL := fun ds S => match ds with
  | [.loc n] => match lstAt S n with
    | some xs => (g xs).map fun d => (d, S)
    | none => none
  | _ => none
def fAll : FL := onLst fun xs => (blsOf xs).map fun bs => .bl (bs.all id)
def fAny : FL := onLst fun xs => (blsOf xs).map fun bs => .bl (bs.any id)
def fSum : FL := onLst fun xs => (intsOf xs).map fun is => .int is.sum
def maxI : List Int → Option Int
  | [] => none
  | i :: is => some (is.foldl (fun a b => if a < b then b else a) i)
def minI : List Int → Option Int
  | [] => none
  | i :: is => some (is.foldl (fun a b => if b < a then b else a) i)
def fMax1 : FL := onLst fun xs => ((intsOf xs).bind maxI).map .int
def fMin1 : FL := onLst fun xs => ((intsOf xs).bind minI).map .int
def fMax2 : FL := fun ds S => match ds with
  | [.int i, .int j] => some (.int (if j > i then j else i), S)
  | _ => none
def fMin2 : FL := fun ds S => match ds with
  | [.int i, .int j] => some (.int (if j < i then j else i), S)
  | _ => none
def fAbs : FL := fun ds S => match ds with
  | [.int i] => some (.int (if i < 0 then -i else i), S)
  | _ => none
theorem blsOf_V {K : PySem.W.Frag} {m : List Addr} {H : Hp} : ∀ {ds : List D} {vs : List V} {bs : List Bool}, RDs K m H ds vs → blsOf ds = some bs → vs = bs.map V.bl
  | [], vs, bs, r, e => by simp only [RDs] at r; cases e; exact r
  | .bl b :: ds, vs, bs, r, e => by
    simp only [RDs, RD] at r
    obtain ⟨v, r', rfl, rfl, t⟩ := r
    cases h : blsOf ds with
    | none => simp only [blsOf, h] at e; cases e
    | some cs =>
      simp only [blsOf, h, Option.map_some, Option.some.injEq] at e
      subst e
      rw [blsOf_V t h]
      rfl
  | .non :: _, _, _, _, e => by cases e
  | .int _ :: _, _, _, _, e => by cases e
  | .str _ :: _, _, _, _, e => by cases e
  | .tup _ :: _, _, _, _, e => by cases e
  | .loc _ :: _, _, _, _, e => by cases e
  | .xc _ _ _ :: _, _, _, _, e => by cases e
  | .lam _ _ _ _ _ :: _, _, _, _, e => by cases e
  | .scr _ :: _, _, _, _, e => by cases e
theorem intsOf_V {K : PySem.W.Frag} {m : List Addr} {H : Hp} : ∀ {ds : List D} {vs : List V} {bs : List Int}, RDs K m H ds vs → intsOf ds = some bs → vs = bs.map V.int
  | [], vs, bs, r, e => by simp only [RDs] at r; cases e; exact r
  | .int b :: ds, vs, bs, r, e => by
    simp only [RDs, RD] at r
    obtain ⟨v, r', rfl, rfl, t⟩ := r
    cases h : intsOf ds with
    | none => simp only [intsOf, h] at e; cases e
    | some cs =>
      simp only [intsOf, h, Option.map_some, Option.some.injEq] at e
      subst e
      rw [intsOf_V t h]
      rfl
  | .non :: _, _, _, _, e => by cases e
  | .bl _ :: _, _, _, _, e => by cases e
  | .str _ :: _, _, _, _, e => by cases e
  | .tup _ :: _, _, _, _, e => by cases e
  | .loc _ :: _, _, _, _, e => by cases e
  | .xc _ _ _ :: _, _, _, _, e => by cases e
  | .lam _ _ _ _ _ :: _, _, _, _, e => by cases e
  | .scr _ :: _, _, _, _, e => by cases e
theorem onLst_some {g : List D → Option D} {ds : List D} {S S' : Sto} {d : D} (h : onLst g ds S = some (d, S')) : ∃ n xs, ds = [.loc n] ∧ lstAt S n = some xs ∧ g xs = some d ∧ S' = S := by
  unfold onLst at h
  split at h
  · rename_i n
    split at h
    · rename_i xs el
      cases e : g xs with
      | none => rw [e] at h; cases h
      | some d' => rw [e] at h; cases h; exact ⟨n, xs, rfl, el, e, rfl⟩
    · cases h
  · cases h
theorem maxI_is : ∀ (is : List Int) (i : Int), (is.foldl (fun a b => if a < b then b else a) i) ∈ i :: is ∧ ∀ y ∈ i :: is, y ≤ is.foldl (fun a b => if a < b then b else a) i
  | [], i => ⟨by simp, by simp⟩
  | j :: is, i => by
    obtain ⟨h1, h2⟩ := maxI_is is (if i < j then j else i)
    rw [List.foldl_cons]
    refine ⟨?_, fun y hy => ?_⟩
    · rcases List.mem_cons.mp h1 with e | e
      · rw [e]; split <;> simp
      · simp [e]
    · have h3 := h2 _ List.mem_cons_self
      rcases List.mem_cons.mp hy with rfl | hy
      · exact Int.le_trans (by split <;> omega) h3
      · rcases List.mem_cons.mp hy with rfl | hy
        · exact Int.le_trans (by split <;> omega) h3
        · exact h2 y (List.mem_cons_of_mem _ hy)
theorem minI_is : ∀ (is : List Int) (i : Int), (is.foldl (fun a b => if b < a then b else a) i) ∈ i :: is ∧ ∀ y ∈ i :: is, is.foldl (fun a b => if b < a then b else a) i ≤ y
  | [], i => ⟨by simp, by simp⟩
  | j :: is, i => by
    obtain ⟨h1, h2⟩ := minI_is is (if j < i then j else i)
    rw [List.foldl_cons]
    refine ⟨?_, fun y hy => ?_⟩
    · rcases List.mem_cons.mp h1 with e | e
      · rw [e]; split <;> simp
      · simp [e]
    · have h3 := h2 _ List.mem_cons_self
      rcases List.mem_cons.mp hy with rfl | hy
      · exact Int.le_trans h3 (by split <;> omega)
      · rcases List.mem_cons.mp hy with rfl | hy
        · exact Int.le_trans h3 (by split <;> omega)
        · exact h2 y (List.mem_cons_of_mem _ hy)
section
variable {X : Cx}
theorem c_len : CallR X (.builtin "len") (rFL X.K fLen) := by
  intro pins s σ H xs us Q I r h
  obtain ⟨m, S, ds, d, S', rs, rr, e, fin⟩ := h
  unfold fLen at e
  split at e
  · rename_i d0
    simp only [RDs] at rr
    obtain ⟨v, r', rfl, rd, rfl⟩ := rr
    cases el : lenD d0 S with
    | none => rw [el] at e; cases e
    | some n =>
      rw [el] at e
      cases e
      have fi := fin m H (.int (n : Nat)) (.refl _ _) rs (by simp only [RD])
      unfold lenD at el
      split at el
      · cases el
        simp only [RD] at rd
        obtain ⟨a, vs, rfl, hq, t⟩ := rd
        exact call_len_seq pins s σ H _ us Q I r ⟨a, vs, rfl, .inr hq, by rw [← t.length]; exact fi⟩
      · split at el
        · rename_i hz
          cases el
          simp only [RD] at rd
          subst rd
          exact call_len_str pins s σ H _ us Q I r ⟨_, rfl, Nat.le_of_ble_eq_true hz, fi⟩
        · cases el
      · rename_i k
        simp only [RD] at rd
        obtain ⟨a, rfl, hm⟩ := rd
        split at el
        · rename_i xs eg; cases el; obtain ⟨vs, h1, t⟩ := rs.obj hm eg; exact call_len_seq pins s σ H _ us Q I r ⟨a, vs, rfl, .inl (SqL.of h1), by rw [← t.length]; exact fi⟩
        · rename_i xs eg; cases el; obtain ⟨ob, vs, h1, t⟩ := rs.obj hm eg; exact call_len_seq pins s σ H _ us Q I r ⟨a, vs, rfl, .inl (.inl (.inr ⟨ob, h1⟩)), by rw [← t.length]; exact fi⟩
        · rename_i xs eg; cases el; obtain ⟨vs, h1, t⟩ := rs.obj hm eg; exact call_lenD pins s σ H _ us Q I r ⟨a, vs, rfl, h1, by rw [← t.length]; exact fi⟩
        · cases el
      · cases el
        simp only [RD] at rd
        obtain ⟨a, rfl, q⟩ := rd
        exact call_len_seq pins s σ H _ us Q I r ⟨a, _, rfl, .inl q.sq, by rw [List.length_map]; exact fi⟩
      · cases el
  · cases e
theorem c_int : CallR X (.type "int") (rFL X.K fInt) := by
  intro pins s σ H xs us Q I r h
  obtain ⟨m, S, ds, d, S', rs, rr, e, fin⟩ := h
  unfold fInt at e
  split at e
  · cases e
    simp only [RDs, RD] at rr
    obtain ⟨v, r', rfl, rfl, rfl⟩ := rr
    exact call_int1 pins s σ H _ us Q I r (.inl ⟨_, rfl, fin m H _ (.refl _ _) rs (by simp only [RD])⟩)
  · cases e
    simp only [RDs, RD] at rr
    obtain ⟨v, r', rfl, rfl, rfl⟩ := rr
    exact call_int1 pins s σ H _ us Q I r (.inr ⟨_, rfl, fin m H _ (.refl _ _) rs (by simp only [RD])⟩)
  · cases e
theorem c_list : CallR X (.type "list") (rFL X.K fList) := by
  intro pins s σ H xs us Q I r h
  obtain ⟨m, S, ds, d, S', rs, rr, e, fin⟩ := h
  unfold fList at e
  split at e
  · cases e
    simp only [RDs, RD] at rr
    obtain ⟨v, r', rfl, ⟨a, vs, rfl, hq, t⟩, rfl⟩ := rr
    exact call_list_of pins s σ H _ us Q I r ⟨a, vs, rfl, .inr hq, newLst rs t fin⟩
  · split at e
    · rename_i ys el
      cases e
      simp only [RDs, RD] at rr
      obtain ⟨v, r', rfl, ⟨a, rfl, hm⟩, rfl⟩ := rr
      obtain ⟨vs, hq, t⟩ := rs.lst hm el
      exact call_list_of pins s σ H _ us Q I r ⟨a, vs, rfl, .inl hq, newLst rs t fin⟩
    · cases e
  · cases e
    simp only [RDs, RD] at rr
    obtain ⟨v, r', rfl, ⟨a, rfl, q⟩, rfl⟩ := rr
    exact call_list_of pins s σ H _ us Q I r ⟨a, _, rfl, .inl q.sq, newLst rs (RDs.ints _) fin⟩
  · cases e
theorem c_tuple : CallR X (.type "tuple") (rFL X.K fTuple) := by
  intro pins s σ H xs us Q I r h
  obtain ⟨m, S, ds, d, S', rs, rr, e, fin⟩ := h
  unfold fTuple at e
  split at e
  · cases e
    simp only [RDs, RD] at rr
    obtain ⟨v, r', rfl, ⟨a, vs, rfl, hq, t⟩, rfl⟩ := rr
    exact call_tuple_of pins s σ H _ us Q I r ⟨a, vs, rfl, .inr ⟨hq, fin m H _ (.refl _ _) rs (by simp only [RD]; exact ⟨a, vs, rfl, hq, t⟩)⟩⟩
  · split at e
    · rename_i ys el
      cases e
      simp only [RDs, RD] at rr
      obtain ⟨v, r', rfl, ⟨a, rfl, hm⟩, rfl⟩ := rr
      obtain ⟨vs, hq, t⟩ := rs.lst hm el
      exact call_tuple_of pins s σ H _ us Q I r ⟨a, vs, rfl, .inl ⟨hq, newTup rs t fin⟩⟩
    · cases e
  · cases e
theorem onLst_r {F : Value} {g : List D → Option D} (h : ∀ (pins : List (Addr × Obj)) (s : Shared) (σ : St) (H : Hp) (us : List Value) (Q : VK) (a : Addr) (vs : List V) (m : List Addr) (xs : List D) (d : D), Inv X pins σ H s → Vals [V.ref a] us → SqL X.K H a vs → RDs X.K m H xs vs → g xs = some d → (∀ v, RD X.K m H d v → Q v H) → wpAny (model X.prog X.w) X.A (call F us) (EP X pins σ Q) X.xe s) : CallR X F (rFL X.K (onLst g)) := by
  intro pins s σ H xs us Q I r q
  obtain ⟨m, S, ds, d, S', rs, rr, e, fin⟩ := q
  obtain ⟨n, ys, rfl, el, eg, rfl⟩ := onLst_some e
  simp only [RDs, RD] at rr
  obtain ⟨v, r', rfl, ⟨a, rfl, hm⟩, rfl⟩ := rr
  obtain ⟨vs, hq, t⟩ := rs.lst hm el
  exact h pins s σ H us Q a vs m ys d I r hq t eg fun v rv => fin m H v (.refl _ _) rs rv
theorem c_all (hc : X.calm = true) : CallR X (.builtin "all") (rFL X.K fAll) := onLst_r fun pins s σ H us Q a vs m xs d I r hq t e fin => by
  cases h : blsOf xs with
  | none => rw [h] at e; cases e
  | some bs =>
    rw [h] at e
    cases e
    have := blsOf_V t h
    subst this
    exact cr_all hc pins s σ H _ us Q I r ⟨a, bs, rfl, hq, fin _ (by simp only [RD])⟩
theorem c_any (hc : X.calm = true) : CallR X (.builtin "any") (rFL X.K fAny) := onLst_r fun pins s σ H us Q a vs m xs d I r hq t e fin => by
  cases h : blsOf xs with
  | none => rw [h] at e; cases e
  | some bs =>
    rw [h] at e
    cases e
    have := blsOf_V t h
    subst this
    exact cr_any hc pins s σ H _ us Q I r ⟨a, bs, rfl, hq, fin _ (by simp only [RD])⟩
theorem c_sum (hc : X.calm = true) : CallR X (.builtin "sum") (rFL X.K fSum) := onLst_r fun pins s σ H us Q a vs m xs d I r hq t e fin => by
  cases h : intsOf xs with
  | none => rw [h] at e; cases e
  | some bs =>
    rw [h] at e
    cases e
    have := intsOf_V t h
    subst this
    exact cr_sum hc pins s σ H _ us Q I r ⟨a, bs, rfl, hq, fin _ (by simp only [RD])⟩
theorem c_max1 (hc : X.calm = true) : CallR X (.builtin "max") (rFL X.K fMax1) := onLst_r fun pins s σ H us Q a vs m xs d I r hq t e fin => by
  cases h : intsOf xs with
  | none => rw [h] at e; cases e
  | some bs =>
    cases bs with
    | nil => rw [h] at e; cases e
    | cons i is =>
      rw [h] at e
      cases e
      have := intsOf_V t h
      subst this
      obtain ⟨h1, h2⟩ := maxI_is is i
      refine cr_max hc pins s σ H _ us Q I r ⟨a, i :: is, rfl, hq, by simp, fun mm m1 m2 => ?_⟩
      have : mm = is.foldl (fun a b => if a < b then b else a) i := Int.le_antisymm (h2 _ m1) (m2 _ h1)
      subst this
      exact fin _ (by simp only [RD])
theorem c_min1 (hc : X.calm = true) : CallR X (.builtin "min") (rFL X.K fMin1) := onLst_r fun pins s σ H us Q a vs m xs d I r hq t e fin => by
  cases h : intsOf xs with
  | none => rw [h] at e; cases e
  | some bs =>
    cases bs with
    | nil => rw [h] at e; cases e
    | cons i is =>
      rw [h] at e
      cases e
      have := intsOf_V t h
      subst this
      obtain ⟨h1, h2⟩ := minI_is is i
      refine cr_min hc pins s σ H _ us Q I r ⟨a, i :: is, rfl, hq, by simp, fun mm m1 m2 => ?_⟩
      have : mm = is.foldl (fun a b => if b < a then b else a) i := Int.le_antisymm (m2 _ h1) (h2 _ m1)
      subst this
      exact fin _ (by simp only [RD])
theorem c_max2 (hc : X.calm = true) : CallR X (.builtin "max") (rFL X.K fMax2) := by
  intro pins s σ H xs us Q I r h
  obtain ⟨m, S, ds, d, S', rs, rr, e, fin⟩ := h
  unfold fMax2 at e
  split at e
  · cases e
    simp only [RDs, RD] at rr
    obtain ⟨v, r', rfl, rfl, v', r'', rfl, rfl, rfl⟩ := rr
    exact call_max2 hc pins s σ H _ us Q I r ⟨_, _, rfl, fin m H _ (.refl _ _) rs (by simp only [RD])⟩
  · cases e
theorem c_min2 (hc : X.calm = true) : CallR X (.builtin "min") (rFL X.K fMin2) := by
  intro pins s σ H xs us Q I r h
  obtain ⟨m, S, ds, d, S', rs, rr, e, fin⟩ := h
  unfold fMin2 at e
  split at e
  · cases e
    simp only [RDs, RD] at rr
    obtain ⟨v, r', rfl, rfl, v', r'', rfl, rfl, rfl⟩ := rr
    exact call_min2 hc pins s σ H _ us Q I r ⟨_, _, rfl, fin m H _ (.refl _ _) rs (by simp only [RD])⟩
  · cases e
theorem c_abs : CallR X (.builtin "abs") (rFL X.K fAbs) := by
  intro pins s σ H xs us Q I r h
  obtain ⟨m, S, ds, d, S', rs, rr, e, fin⟩ := h
  unfold fAbs at e
  split at e
  · cases e
    simp only [RDs, RD] at rr
    obtain ⟨v, r', rfl, rfl, rfl⟩ := rr
    exact call_abs pins s σ H _ us Q I r ⟨_, rfl, fin m H _ (.refl _ _) rs (by simp only [RD])⟩
  · cases e
end
end L2.Z

set_option Elab.async false
set_option linter.all false
set_option maxRecDepth 100000
set_option maxHeartbeats 4000000
/-! ZA: methods of lists, stores to items, dict displays, defs. -/
namespace L2.Z
open PySem PySem.Spec PyProof.Rows
variable [HasT]

/-! ### methods of lists -/
def chkL (x : D) : M Unit := fun S => match x with
  | .loc n => match lstAt S n with
    | some _ => .ok () S
    | none => .bad
  | _ => .bad
def eM (h : D → FL) (f : Env → M D) (g : Env → M (List D)) : Env → M D := fun σ => bnd (f σ) fun x => bnd (chkL x) fun _ => bnd (g σ) fun ds => up (h x ds)
def fApp : D → FL := fun x ds S => match x, ds with
  | .loc n, [y] => match S.get n with
    | some (.lst xs) => match Nat.blt xs.length sizeLine with
      | true => some (.non, S.set n (.lst (xs ++ [y])))
      | false => none
    | _ => none
  | _, _ => none
def fExt : D → FL := fun x ds S => match x, ds with
  | .loc n, [.loc b] => match S.get n, S.get b with
    | some (.lst xs), some (.lst zs) => match Nat.ble (xs.length + zs.length) sizeLine with
      | true => some (.non, S.set n (.lst (xs ++ zs)))
      | false => none
    | _, _ => none
  | _, _ => none
def fPop : D → FL := fun x ds S => match x, ds with
  | .loc n, [] => match S.get n with
    | some (.lst xs) => (xs[xs.length - 1]?).map fun y => (y, S.set n (.lst xs.dropLast))
    | _ => none
  | _, _ => none
def fPopAt : D → FL := fun x ds S => match x, ds with
  | .loc n, [.int i] => match S.get n with
    | some (.lst xs) => match ixN xs.length i with
      | some k => (xs[k]?).map fun y => (y, S.set n (.lst (xs.eraseIdx k)))
      | none => none
    | _ => none
  | _, _ => none
theorem RDs.dropLast {K : PySem.W.Frag} {m : List Addr} {H : Hp} {ds : List D} {vs : List V} (h : RDs K m H ds vs) : RDs K m H ds.dropLast vs.dropLast := by
  rw [List.dropLast_eq_take, List.dropLast_eq_take, h.length]
  exact h.take _
theorem RDs.erase {K : PySem.W.Frag} {m : List Addr} {H : Hp} : ∀ {ds : List D} {vs : List V} (k : Nat), RDs K m H ds vs → RDs K m H (ds.eraseIdx k) (vs.eraseIdx k)
  | [], vs, k, h => by simp only [RDs] at h; subst h; simp only [List.eraseIdx_nil, RDs]
  | d :: ds, vs, 0, h => by
    simp only [RDs] at h
    obtain ⟨v, r, rfl, _, t⟩ := h
    exact t
  | d :: ds, vs, k + 1, h => by
    simp only [RDs] at h
    obtain ⟨v, r, rfl, q, t⟩ := h
    simp only [List.eraseIdx_cons_succ, RDs]
    exact ⟨v, r.eraseIdx k, rfl, q, RDs.erase k t⟩
theorem RDs.set {K : PySem.W.Frag} {m : List Addr} {H : Hp} : ∀ {ds : List D} {vs : List V} {d : D} {v : V} (k : Nat), RDs K m H ds vs → RD K m H d v → RDs K m H (ds.set k d) (vs.set k v)
  | [], vs, d, v, k, h, q => by simp only [RDs] at h; subst h; simp only [List.set_nil, RDs]
  | d0 :: ds, vs, d, v, 0, h, q => by
    simp only [RDs] at h
    obtain ⟨v0, r, rfl, _, t⟩ := h
    simp only [List.set_cons_zero, RDs]
    exact ⟨v, r, rfl, q, t⟩
  | d0 :: ds, vs, d, v, k + 1, h, q => by
    simp only [RDs] at h
    obtain ⟨v0, r, rfl, q0, t⟩ := h
    simp only [List.set_cons_succ, RDs]
    exact ⟨v0, r.set k v, rfl, q0, RDs.set k t q⟩
/-- a list of the store is written -/
theorem RS.setL {K : PySem.W.Frag} {m : List Addr} {S : Sto} {H : Hp} (rs : RS K m S H) {n : Nat} {a : Addr} {xs ys : List D} {vs ws : List V} (hm : m[n]? = some a) (g : S.get n = some (.lst xs)) (hv : H a = some (.lst vs)) (r : RDs K m H ys ws) : Ext m H m (upd H a (.lst ws)) ∧ RS K m (S.set n (.lst ys)) (upd H a (.lst ws)) :=
  rs.set hm g hv (fun _ z => nomatch z) (fun _ _ z => nomatch z) (fun m' H' x => ⟨_, rfl, RDs.mono x _ _ r⟩)
section
variable {X : Cx}
theorem m_app : MtR X "list.append" (rFM X.K fApp) := by
  intro pins s σ H x xs v us Q I rx rxs h
  obtain ⟨m, S, d0, ds, d, S', rs, r0, rr, e, fin⟩ := h
  unfold fApp at e
  split at e
  · rename_i n y
    split at e
    · rename_i zs eg
      split at e
      · rename_i hl
        cases e
        simp only [RD] at r0
        obtain ⟨a, rfl, hm⟩ := r0
        simp only [RDs] at rr
        obtain ⟨yv, r', rfl, ry, rfl⟩ := rr
        obtain ⟨vs, hv, t⟩ := rs.obj hm eg
        obtain ⟨x1, rs1⟩ := rs.setL hm eg hv (t.snoc ry)
        exact mt_append pins s σ H _ _ v us Q I rx rxs ⟨a, vs, yv, rfl, rfl, hv, by rw [← t.length]; exact Nat.le_of_ble_eq_true hl, fin m _ _ x1 rs1 (by simp only [RD])⟩
      · cases e
    · cases e
  · cases e
theorem m_ext : MtR X "list.extend" (rFM X.K fExt) := by
  intro pins s σ H x xs v us Q I rx rxs h
  obtain ⟨m, S, d0, ds, d, S', rs, r0, rr, e, fin⟩ := h
  unfold fExt at e
  split at e
  · rename_i n b
    split at e
    · rename_i zs ws eg eg'
      split at e
      · rename_i hl
        cases e
        simp only [RD] at r0
        obtain ⟨a, rfl, hm⟩ := r0
        simp only [RDs, RD] at rr
        obtain ⟨yv, r', rfl, ⟨b', rfl, hm'⟩, rfl⟩ := rr
        obtain ⟨vs, hv, t⟩ := rs.obj hm eg
        obtain ⟨vs', hv', t'⟩ := rs.obj hm' eg'
        obtain ⟨x1, rs1⟩ := rs.setL hm eg hv (t.append t')
        exact mt_extend pins s σ H _ _ v us Q I rx rxs ⟨a, b', vs, vs', rfl, rfl, hv, hv', by rw [← t.length, ← t'.length]; exact Nat.le_of_ble_eq_true hl, fin m _ _ x1 rs1 (by simp only [RD])⟩
      · cases e
    · cases e
  · cases e
theorem m_pop : MtR X "list.pop" (rFM X.K fPop) := by
  intro pins s σ H x xs v us Q I rx rxs h
  obtain ⟨m, S, d0, ds, d, S', rs, r0, rr, e, fin⟩ := h
  unfold fPop at e
  split at e
  · rename_i n
    split at e
    · rename_i zs eg
      cases ez : zs[zs.length - 1]? with
      | none => rw [ez] at e; cases e
      | some y =>
        rw [ez] at e
        cases e
        simp only [RD] at r0
        obtain ⟨a, rfl, hm⟩ := r0
        simp only [RDs] at rr
        subst rr
        obtain ⟨vs, hv, t⟩ := rs.obj hm eg
        obtain ⟨yv, ey, ry⟩ := t.get ez
        obtain ⟨x1, rs1⟩ := rs.setL hm eg hv t.dropLast
        exact mt_pop pins s σ H _ _ v us Q I rx rxs ⟨a, vs, yv, rfl, rfl, hv, by rw [← t.length]; exact ey, fin m _ _ x1 rs1 (RD.mono x1 _ _ ry)⟩
    · cases e
  · cases e
theorem m_popAt : MtR X "list.pop" (rFM X.K fPopAt) := by
  intro pins s σ H x xs v us Q I rx rxs h
  obtain ⟨m, S, d0, ds, d, S', rs, r0, rr, e, fin⟩ := h
  unfold fPopAt at e
  split at e
  · rename_i n i
    split at e
    · rename_i zs eg
      split at e
      · rename_i k ek
        cases ez : zs[k]? with
        | none => rw [ez] at e; cases e
        | some y =>
          rw [ez] at e
          cases e
          simp only [RD] at r0
          obtain ⟨a, rfl, hm⟩ := r0
          simp only [RDs, RD] at rr
          obtain ⟨yv, r', rfl, rfl, rfl⟩ := rr
          obtain ⟨vs, hv, t⟩ := rs.obj hm eg
          obtain ⟨yv, ey, ry⟩ := t.get ez
          obtain ⟨x1, rs1⟩ := rs.setL hm eg hv (t.erase k)
          rw [t.length] at ek
          obtain ⟨g1, g2, g3, g4⟩ := ixN_seq ek
          have hz : vs.length ≤ 16777216 := by
            obtain ⟨_, _, _, hz⟩ := I.list (SqL.of hv)
            have := sizeLine_eq
            omega
          exact mt_popAt pins s σ H _ _ v us Q I rx rxs ⟨a, vs, i, k, yv, rfl, rfl, hv, by omega, by omega, g1, ey, fin m _ _ x1 rs1 (RD.mono x1 _ _ ry)⟩
      · cases e
    · cases e
  · cases e
end
section
variable {X : Cx} {o e : Expr} {es : List Expr} {f : Env → M D} {g : Env → M (List D)} {name : Str} {apos cpos : Pos} {id : String} {h : D → FL}
theorem PostG.chkL {K : PySem.W.Frag} {mg : Str → Option Value} {m : List Addr} {H : Hp} {E : XK} {x : D} {S : Sto} {P : Unit → Sto → List Addr → Hp → Prop} (h : PostG K mg m H (Z.chkL x S) P E) (rs : RS K m S H) : ∃ n xs, x = .loc n ∧ lstAt S n = some xs ∧ P () S m H := by
  unfold Z.chkL at h
  split at h
  · rename_i n
    cases e : lstAt S n with
    | none => rw [e] at h; exact h.elim
    | some xs => rw [e] at h; exact ⟨n, xs, rfl, e, h m H (.refl _ _) rs⟩
  · exact h.elim
theorem q_lm (slot : Slot "list" name id) (hty : typeOf (.builtin id) = pure (.type "method_descriptor")) (hm : MtR X id (rFM X.K h)) (ho : QE X o f) (ha : QA X (e :: es) g)
    (hbase : attributeBase o name X.env (eval o X.env) = eval o X.env := by rfl)
    (hfew : ((backTo cpos (starEach (e :: es) X.env)).all (fun x => !x.1) && (backToKw cpos (keywordEach [] X.env)).all (fun x => x.1.isSome)
      && decide ((e :: es).length + ([] : List Keyword).length + (if ([] : List Keyword).isEmpty then 0 else 1) < 30)) = true := by rfl)
    (hline : (apos.endLine == cpos.line) = true := by rfl) (hs : starEach (e :: es) X.env = (false, eval e X.env) :: starEach es X.env := by rfl) (hplain : (backTo cpos (starEach es X.env)).any (·.1) = false := by rfl) :
    QE X (.Call (.Attribute o name apos) (e :: es) [] cpos) (eM h f g) := ⟨fun W tk m S σ σv H P rs re p => by
  refine wE.of (pe_bm PySem.F.plainAttrs_list slot hty hm (pw o) (paw (e :: es)) hbase hfew hline hs hplain) ?_
  refine (ho.run W tk m S σ σv H _ rs re p.bnd).mono ?_
  rintro x H1 ⟨d1, S1, m1, rs1, r1, x1, q1⟩
  obtain ⟨n, xs, rfl, el, q2⟩ := q1.bnd.chkL rs1
  have r1' := r1
  simp only [RD] at r1'
  obtain ⟨a, rfl, hma⟩ := r1'
  obtain ⟨vs, hq, t⟩ := rs1.lst hma el
  refine ⟨.inl ⟨rfl, vs, hq⟩, ?_⟩
  intro pos' pins' s' I'
  refine thn (ha.run W tk m1 S1 σ σv H1 _ rs1 (re.mono x1) q2.bnd pos' pins' s' I') ?_
  rintro us s2 ⟨ws, H2, I2, rv, ds, S2, m2, rs2, r2, x2, q3⟩
  obtain ⟨d, S', e', fin⟩ := q3.up
  exact ⟨ws, H2, I2, rv, m2, S2, .loc n, ds, d, S', rs2, RD.mono x2 _ _ r1, r2, e', fun m' H' v x' rs' rv' => ⟨d, S', m', rs', rv', (x1.trans x2).trans x', fin m' H' x' rs'⟩⟩⟩
theorem q_lm0 (slot : Slot "list" name id) (hty : typeOf (.builtin id) = pure (.type "method_descriptor")) (hm : MtR X id (rFM X.K h)) (ho : QE X o f)
    (hbase : attributeBase o name X.env (eval o X.env) = eval o X.env := by rfl) (hline : (apos.endLine == cpos.line) = true := by rfl) : QE X (.Call (.Attribute o name apos) [] [] cpos) (eM h f aNil) := ⟨fun W tk m S σ σv H P rs re p => by
  refine wE.of (pe_bm0 PySem.F.plainAttrs_list slot hty hm (pw o) hbase hline) ?_
  refine (ho.run W tk m S σ σv H _ rs re p.bnd).mono ?_
  rintro x H1 ⟨d1, S1, m1, rs1, r1, x1, q1⟩
  obtain ⟨n, xs, rfl, el, q2⟩ := q1.bnd.chkL rs1
  have r1' := r1
  simp only [RD] at r1'
  obtain ⟨a, rfl, hma⟩ := r1'
  obtain ⟨vs, hq, t⟩ := rs1.lst hma el
  refine ⟨.inl ⟨rfl, vs, hq⟩, ?_⟩
  have q3 := q2.bnd m1 H1 (.refl _ _) rs1
  obtain ⟨d, S', e', fin⟩ := PostG.up q3
  exact ⟨m1, S1, .loc n, [], d, S', rs1, r1, by simp only [RDs], e', fun m' H' v x' rs' rv' => ⟨d, S', m', rs', rv', x1.trans x', fin m' H' x' rs'⟩⟩⟩
end

/-! ### o[i] = e -/
def putD {κ : Type} [DecidableEq κ] (kvs : List (κ × D)) (k : κ) (v : D) : List (κ × D) :=
  if (kvs.any fun kv => decide (kv.1 = k)) = true then kvs.map (fun kv => if kv.1 = k then (kv.1, v) else kv) else kvs ++ [(k, v)]
def fPut (x i v : D) (S : Sto) : Option Sto := match x with
  | .loc n => match S.get n with
    | some (.lst xs) => match i with
      | .int k => match ixN xs.length k with
        | some j => some (S.set n (.lst (xs.set j v)))
        | none => none
      | _ => none
    | some (.dK kvs) => match keyOf i with
      | some k => match Nat.blt kvs.length sizeLine with
        | true => some (S.set n (.dK (putD kvs k v)))
        | false => none
      | none => none
    | _ => none
  | _ => none
def sSub (fo fi fe : Env → M D) : Sm := fun σ => sE (fe σ) σ fun v => sE (fo σ) σ fun x => sE (fi σ) σ fun i S => match fPut x i v S with
  | some S' => .ok (.nx, σ) S'
  | none => .bad
theorem RKs.any {κ : Type} [DecidableEq κ] {K : PySem.W.Frag} {m : List Addr} {H : Hp} {k : κ} : ∀ {kvs : List (κ × D)} {vs : List (κ × V)}, RKs K m H kvs vs → (kvs.any fun kv => decide (kv.1 = k)) = (vs.any fun kv => decide (kv.1 = k))
  | [], vs, h => by simp only [RKs] at h; subst h; rfl
  | p :: kvs, vs, h => by
    simp only [RKs] at h
    obtain ⟨v, r, rfl, _, rr⟩ := h
    rw [List.any_cons, List.any_cons, RKs.any rr]
theorem RKs.mapPut {κ : Type} [DecidableEq κ] {K : PySem.W.Frag} {m : List Addr} {H : Hp} {k : κ} {d : D} {w : V} (q : RD K m H d w) : ∀ {kvs : List (κ × D)} {vs : List (κ × V)}, RKs K m H kvs vs → RKs K m H (kvs.map fun kv => if kv.1 = k then (kv.1, d) else kv) (vs.map fun kv => if kv.1 = k then (kv.1, w) else kv)
  | [], vs, h => by simp only [RKs] at h; subst h; simp only [List.map_nil, RKs]
  | p :: kvs, vs, h => by
    simp only [RKs] at h
    obtain ⟨v, r, rfl, rd, rr⟩ := h
    simp only [List.map_cons, RKs]
    by_cases e : p.1 = k
    · exact ⟨w, _, by simp [e], by simp [e]; exact q, RKs.mapPut q rr⟩
    · exact ⟨v, _, by simp [e], by simp [e]; exact rd, RKs.mapPut q rr⟩
theorem RKs.snoc {κ : Type} {K : PySem.W.Frag} {m : List Addr} {H : Hp} {k : κ} {d : D} {w : V} (q : RD K m H d w) : ∀ {kvs : List (κ × D)} {vs : List (κ × V)}, RKs K m H kvs vs → RKs K m H (kvs ++ [(k, d)]) (vs ++ [(k, w)])
  | [], vs, h => by simp only [RKs] at h; subst h; simp only [List.nil_append, RKs]; exact ⟨w, [], rfl, q, rfl⟩
  | p :: kvs, vs, h => by
    simp only [RKs] at h
    obtain ⟨v, r, rfl, rd, rr⟩ := h
    simp only [List.cons_append, RKs]
    exact ⟨v, _, rfl, rd, RKs.snoc q rr⟩
theorem RKs.put {κ : Type} [DecidableEq κ] {K : PySem.W.Frag} {m : List Addr} {H : Hp} {k : κ} {d : D} {w : V} (q : RD K m H d w) {kvs : List (κ × D)} {vs : List (κ × V)} (h : RKs K m H kvs vs) : RKs K m H (putD kvs k d) (putK vs k w) := by
  unfold putD putK
  rw [← RKs.any (k := k) h]
  split
  · exact RKs.mapPut q h
  · exact RKs.snoc q h
theorem keyOf_V {K : PySem.W.Frag} {m : List Addr} {H : Hp} {d : D} {v : V} {k : Key} (r : RD K m H d v) (e : keyOf d = some k) : v = kV k := by
  unfold keyOf at e
  split at e
  · cases e; simp only [RD] at r; exact r
  · cases e; simp only [RD] at r; exact r
  · cases e
section
variable {X : Cx} {o i e : Expr} {fo fi fe : Env → M D} {pos pos' : Pos}
theorem qs_sub {k : Nat} (hr : Room k X.A) (ho : QE X o fo) (hi : QE X i fi) (he : QE X e fe) (hs : swapsWith e (some (.Subscript o i pos')) pos.line X.env = pure false := by rfl) (hw : swappedStores [.Subscript o i pos'] e X.env = pure none := by rfl)
    (h1 : (assignEach [.Subscript o i pos'] X.env).map (·.2) = [assign (.Subscript o i pos') X.env] := by rfl)
    (ha : ∀ v, assign (.Subscript o i pos') X.env v = (do
      let ov ← holding [v] (eval o X.env)
      let iv ← holding [v, ov] (eval i X.env)
      standAt pos'
      holding [v, ov, iv] (setItem ov iv v)
      release [v, ov, iv] []) := by intro _; rfl) : QS X (.Assign [.Subscript o i pos'] e pos) (sSub fo fi fe) := ⟨fun W tk m S σ σv H Dn rs re p => by
  -- what is read of the three, then what the store asks
  have rd : ∀ {R : V → V → V → Hp → Prop}, (∀ m3 S3 H3 d1 d2 d3 x y z S', RS X.K m3 S3 H3 → RD X.K m3 H3 d1 x → RD X.K m3 H3 d2 y → RD X.K m3 H3 d3 z → RE X.K m3 H3 σ σv → fPut d2 d3 d1 S3 = some S' → (∃ n o, d2 = .loc n ∧ S3.get n = some o) → PostS X.K X.mg m3 H3 (.ok (.nx, σ) S') Dn W → R x y z H3) →
      wE X e σv H fun v H1 => wE X o σv H1 fun ov H2 => wE X i σv H2 fun iv H3 => R v ov iv H3 := fun {R} hR => by
    refine (he.run W tk m S σ σv H _ rs re (PostS.sE re p)).mono ?_
    rintro v H1 ⟨d1, S1, m1, rs1, r1, x1, q1⟩
    refine (ho.run W tk m1 S1 σ σv H1 _ rs1 (re.mono x1) (PostS.sE (re.mono x1) q1)).mono ?_
    rintro ov H2 ⟨d2, S2, m2, rs2, r2, x2, q2⟩
    refine (hi.run W tk m2 S2 σ σv H2 _ rs2 ((re.mono x1).mono x2) (PostS.sE ((re.mono x1).mono x2) q2)).mono ?_
    rintro iv H3 ⟨d3, S3, m3, rs3, r3, x3, q3⟩
    cases ep : fPut d2 d3 d1 S3 with
    | none => rw [ep] at q3; exact q3.elim
    | some S' =>
      rw [ep] at q3
      have ex : ∃ n o, d2 = .loc n ∧ S3.get n = some o := by
        unfold fPut at ep
        split at ep
        · rename_i n
          cases h : S3.get n with
          | none => rw [h] at ep; cases ep
          | some o => exact ⟨n, o, rfl, h⟩
        · cases ep
      exact hR m3 S3 H3 d1 d2 d3 v ov iv S' rs3 (RD.mono (x2.trans x3) _ _ r1) (RD.mono x3 _ _ r2) r3 (((re.mono x1).mono x2).mono x3) ep ex q3
  -- is it a list or a dict? read it off the model's own state: both at once
  intro pins s I
  refine wpAny_Assign_Subscript ?_ hs
  refine thn (rd (R := fun x y z H3 => ∀ pins s u ov iv, Inv X pins σv H3 s → RelV x u → RelV y ov → RelV z iv → wpAny (model X.prog X.w) X.A (setItem ov iv u) (fun _ s' => SP X pins Dn .next s') X.xe s) ?_ pins s I) ?_
  · intro m3 S3 H3 d1 d2 d3 x y z S' rs3 r1 r2 r3 re3 ep ex q pins s u ov iv I3 ru rov riv
    obtain ⟨n, ob, rfl, eg⟩ := ex
    simp only [RD] at r2
    obtain ⟨a, rfl, hm⟩ := r2
    simp only [fPut, eg] at ep
    cases ob with
    | lst xs =>
      simp only at ep
      split at ep
      · rename_i kk
        split at ep
        · rename_i j ej
          cases ep
          simp only [RD] at r3
          subst r3
          obtain ⟨vs, hv, t⟩ := rs3.obj hm eg
          rw [t.length] at ej
          obtain ⟨x4, rs4⟩ := rs3.setL hm eg hv (t.set j r1)
          refine thn (set_list pins s σv H3 _ _ x ov iv u (fun H' => H' = upd H3 a (.lst (vs.set j x))) I3 rov riv ru ⟨a, vs, kk, j, rfl, rfl, hv, ej, rfl⟩) ?_
          rintro _ s' ⟨H', I', rfl⟩
          exact ⟨σv, _, I', q m3 _ σv x4 rs4 (re3.mono x4)⟩
        · cases ep
      · cases ep
    | dK kvs =>
      simp only at ep
      split at ep
      · rename_i key ek
        split at ep
        · rename_i hl
          cases ep
          have ez := keyOf_V r3 ek
          obtain ⟨vs, hv, t⟩ := rs3.obj hm eg
          obtain ⟨x4, rs4⟩ := rs3.set (o := .dK (putD kvs key d1)) (u := .dK (putK vs key x)) hm eg hv (fun _ z => nomatch z) (fun _ _ z => nomatch z) (fun m' H' x' => ⟨_, rfl, RKs.mono x' _ _ (RKs.put r1 t)⟩)
          subst ez
          obtain rfl : ov = Value.ref a := rov
          exact d_setItem (hu_of hr) I3 (DPut.k hv (by rw [← t.length]; exact Nat.le_of_ble_eq_true hl)) riv ru fun s4 I4 => ⟨σv, _, I4, q m3 _ σv x4 rs4 (re3.mono x4)⟩
        · cases ep
      · cases ep
    | fz _ => cases ep
    | dT _ => cases ep
    | fd _ => cases ep
  · rintro u s1 ⟨v, H1, I1, ru, h2⟩
    refine thn (h2 pins s1 I1) ?_
    rintro ov s2 ⟨ovv, H2, I2, rov, h3⟩
    refine thn (h3 pins s2 I2) ?_
    rintro iv s3 ⟨ivv, H3, I3, riv, h4⟩
    exact h4 pins s3 u ov iv I3 ru rov riv⟩
end
end L2.Z

set_option Elab.async false
set_option linter.all false
set_option maxRecDepth 100000
set_option maxHeartbeats 4000000
/-! ZB: dict displays, -x, three at once, defs, the law's end. -/
namespace L2.Z
open PySem PySem.Spec PyProof.Rows
variable [HasT]

/-! ### {k: v, ..} -/
abbrev Prs := List ((Env → M D) × (Env → M D))
def pM : Prs → Env → M (List (Key × D))
  | [], _ => ret []
  | (fk, fv) :: r, σ => bnd (fk σ) fun k => bnd (fv σ) fun v => bnd (pM r σ) fun ps => match keyOf k with
    | some kk => ret ((kk, v) :: ps)
    | none => bad
def mergeD (kvs more : List (Key × D)) : List (Key × D) := more.foldl (fun acc kv => putD acc kv.1 kv.2) kvs
def eDict (prs : Prs) : Env → M D := fun σ S => match pM prs σ (S.push (.dK [])) with
  | .ok kvs S2 => match S2.get S.n with
    | some (.dK []) => match Nat.ble kvs.length 15 with
      | true => .ok (.loc S.n) (S2.set S.n (.dK (mergeD [] kvs)))
      | false => .bad
    | _ => .bad
  | .exc x S' => .exc x S'
  | .bad => .bad
def QPs (X : Cx) : List (Option Expr) → List Expr → Prs → Prop
  | [], [], [] => True
  | some k :: ks, v :: vs, (fk, fv) :: ps => QE X k fk ∧ QE X v fv ∧ QPs X ks vs ps
  | _, _, _ => False
def trsOf (X : Cx) : List (Option Expr) → List Expr → List (TE × TE)
  | some k :: ks, v :: vs => (wE X k, wE X v) :: trsOf X ks vs
  | _, _ => []
theorem QPs.pps {X : Cx} {pos : Pos} : ∀ {ks : List (Option Expr)} {vs : List Expr} {ps : Prs}, QPs X ks vs ps → PPs X pos ks vs (trsOf X ks vs)
  | [], [], [], _ => pps_nil
  | some k :: ks, v :: vs, (fk, fv) :: ps, h => pps_cons (pw k) (pw v) (QPs.pps h.2.2)
  | [], [], _ :: _, h => h.elim
  | [], _ :: _, _, h => h.elim
  | none :: _, _, _, h => h.elim
  | some _ :: _, [], _, h => h.elim
  | some _ :: _, _ :: _, [], h => h.elim
theorem QPs.reads {X : Cx} : ∀ {ks : List (Option Expr)} {vs : List Expr} {ps : Prs}, QPs X ks vs ps → ∀ {W : WX}, Takes X W → ∀ {m : List Addr} {S : Sto} {σ : Env} {σv : St} {H : Hp} {P : List (Key × D) → Sto → List Addr → Hp → Prop}, RS X.K m S H → RE X.K m H σ σv →
    PostG X.K X.mg m H (pM ps σ S) P (fun c d H' => W c d σv H') → tPairs (trsOf X ks vs) σv H (fun qs H' => ∃ kvs kws S' m', RS X.K m' S' H' ∧ RKs X.K m' H' kvs kws ∧ qs = kws.map (fun kv => (kV kv.1, kv.2)) ∧ Ext m H m' H' ∧ P kvs S' m' H')
  | [], [], [], _, W, tk, m, S, σ, σv, H, P, rs, re, p => ⟨[], [], S, m, rs, by simp only [RKs], rfl, .refl _ _, p m H (.refl _ _) rs⟩
  | some k :: ks, v :: vs, (fk, fv) :: ps, h, W, tk, m, S, σ, σv, H, P, rs, re, p => by
    obtain ⟨h1, h2, h3⟩ := h
    refine (h1.run W tk m S σ σv H _ rs re (PostG.bnd p)).mono ?_
    rintro x H1 ⟨d1, S1, m1, rs1, r1, x1, q1⟩
    refine (h2.run W tk m1 S1 σ σv H1 _ rs1 (re.mono x1) (PostG.bnd q1)).mono ?_
    rintro y H2 ⟨d2, S2, m2, rs2, r2, x2, q2⟩
    have ih := QPs.reads h3 tk rs2 ((re.mono x1).mono x2) (PostG.bnd q2)
    have mono : ∀ (trs : List (TE × TE)) (hm : ∀ t ∈ trs, (∀ σ H Q Q', t.1 σ H Q → (∀ v H', Q v H' → Q' v H') → t.1 σ H Q') ∧ (∀ σ H Q Q', t.2 σ H Q → (∀ v H', Q v H' → Q' v H') → t.2 σ H Q')) (H : Hp) (Q Q' : List (V × V) → Hp → Prop), tPairs trs σv H Q → (∀ a b, Q a b → Q' a b) → tPairs trs σv H Q' := by
      intro trs
      induction trs with
      | nil => intro _ H Q Q' h q; exact q _ _ h
      | cons t trs ih =>
        intro hm H Q Q' h q
        obtain ⟨t1, t2⟩ := t
        have hm0 := hm _ List.mem_cons_self
        refine hm0.1 _ _ _ _ h fun v H' h' => hm0.2 _ _ _ _ h' fun w H'' h'' => ih (fun t ht => hm t (List.mem_cons_of_mem _ ht)) _ _ _ h'' fun a b => q _ _
    have hmon : ∀ (ks : List (Option Expr)) (vs : List Expr), ∀ t ∈ trsOf X ks vs, (∀ σ H Q Q', t.1 σ H Q → (∀ v H', Q v H' → Q' v H') → t.1 σ H Q') ∧ (∀ σ H Q Q', t.2 σ H Q → (∀ v H', Q v H' → Q' v H') → t.2 σ H Q') := by
      intro ks
      induction ks with
      | nil => intro vs t ht; cases ht
      | cons k ks ih =>
        intro vs t ht
        cases k with
        | none => cases ht
        | some k =>
          cases vs with
          | nil => cases ht
          | cons v vs =>
            rcases List.mem_cons.mp ht with rfl | ht
            · exact ⟨fun σ H Q Q' a b => wE.mono a b, fun σ H Q Q' a b => wE.mono a b⟩
            · exact ih vs t ht
    refine mono _ (hmon ks vs) _ _ _ ih ?_
    rintro qs H3 ⟨kvs, kws, S3, m3, rs3, rk, rfl, x3, q3⟩
    cases ek : keyOf d1 with
    | none => rw [ek] at q3; exact q3.elim
    | some kk =>
      rw [ek] at q3
      have ex := keyOf_V r1 ek
      refine ⟨(kk, d2) :: kvs, (kk, y) :: kws, S3, m3, rs3, ?_, by rw [ex]; rfl, (x1.trans x2).trans x3, q3 m3 H3 (.refl _ _) rs3⟩
      simp only [RKs]
      exact ⟨y, kws, rfl, RD.mono x3 _ _ r2, rk⟩
  | [], [], _ :: _, h, _, _, _, _, _, _, _, _, _, _, _ => h.elim
  | [], _ :: _, _, h, _, _, _, _, _, _, _, _, _, _, _ => h.elim
  | none :: _, _, _, h, _, _, _, _, _, _, _, _, _, _, _ => h.elim
  | some _ :: _, [], _, h, _, _, _, _, _, _, _, _, _, _, _ => h.elim
  | some _ :: _, _ :: _, [], h, _, _, _, _, _, _, _, _, _, _, _ => h.elim
theorem RKs.merge {K : PySem.W.Frag} {m : List Addr} {H : Hp} : ∀ {more : List (Key × D)} {mv : List (Key × V)} {kvs : List (Key × D)} {vs : List (Key × V)}, RKs K m H more mv → RKs K m H kvs vs → RKs K m H (mergeD kvs more) (mergeK vs mv)
  | [], mv, kvs, vs, h, q => by simp only [RKs] at h; subst h; exact q
  | p :: more, mv, kvs, vs, h, q => by
    simp only [RKs] at h
    obtain ⟨v, r, rfl, rd, rr⟩ := h
    exact RKs.merge (kvs := putD kvs p.1 p.2) (vs := putK vs p.1 v) rr (RKs.put rd q)
section
variable {X : Cx} {pos : Pos}
theorem q_dict {keys : List (Option Expr)} {values : List Expr} {prs : Prs} (h : QPs X keys values prs) (hall : keys.all (·.isSome) = true := by rfl) (hl : keys.length = values.length := by rfl) (h0 : keys ≠ [] := by intro z; cases z) (h15 : keys.length ≤ 15 := by decide) : QE X (.Dict keys values pos) (eDict prs) := ⟨fun W tk m S σ σv H P rs re p => by
  refine wE.of (pe_disp h.pps hall hl h0 h15) ?_
  intro q hq
  obtain ⟨x1, rs1, g1⟩ := rs.push (o := .dK []) (u := .dK []) hq (fun m' H' x => ⟨[], rfl, by simp only [RKs]⟩)
  have p1 : PostG X.K X.mg (m ++ [q]) (upd H q (.dK [])) (pM prs σ (S.push (.dK []))) (fun kvs S2 m2 H2 => S2.get S.n = some (.dK []) ∧ kvs.length ≤ 15 ∧ PostG X.K X.mg m2 H2 (.ok (D.loc S.n) (S2.set S.n (.dK (mergeD [] kvs)))) P (fun c d H' => W c d σv H')) (fun c d H' => W c d σv H') := by
    unfold eDict at p
    cases e1 : pM prs σ (S.push (.dK [])) with
    | bad => rw [e1] at p; exact p
    | exc y S' => rw [e1] at p; exact PostG.ext p x1
    | ok kvs S2 =>
      simp only [e1] at p
      intro m2 H2 x2 rs2
      cases eg : S2.get S.n with
      | none => simp only [eg] at p; exact p.elim
      | some o =>
        cases o with
        | dK l =>
          cases l with
          | nil =>
            simp only [eg] at p
            cases hl : Nat.ble kvs.length 15 with
            | true => simp only [hl] at p; exact ⟨rfl, Nat.le_of_ble_eq_true hl, PostG.ext p (x1.trans x2)⟩
            | false => simp only [hl] at p; exact p.elim
          | cons _ _ => simp only [eg] at p; exact p.elim
        | lst _ => simp only [eg] at p; exact p.elim
        | fz _ => simp only [eg] at p; exact p.elim
        | dT _ => simp only [eg] at p; exact p.elim
        | fd _ => simp only [eg] at p; exact p.elim
  have rr := h.reads tk rs1 (re.mono x1) p1
  have mono : ∀ (ks : List (Option Expr)) (vs : List Expr) (H : Hp) (Q Q' : List (V × V) → Hp → Prop), tPairs (trsOf X ks vs) σv H Q → (∀ a b, Q a b → Q' a b) → tPairs (trsOf X ks vs) σv H Q' := by
    intro ks
    induction ks with
    | nil => intro vs H Q Q' h q; exact q _ _ h
    | cons k ks ih =>
      intro vs H Q Q' h q
      cases k with
      | none => exact q _ _ h
      | some k =>
        cases vs with
        | nil => exact q _ _ h
        | cons v vs => exact wE.mono h fun x H1 h1 => wE.mono h1 fun y H2 h2 => ih vs _ _ _ h2 fun a b => q _ _
  refine mono keys values _ _ _ rr ?_
  rintro qs H2 ⟨kvs, kws, S2, m2, rs2, rk, rfl, x2, eg, hl, q2⟩
  have gn : m2[S.n]? = some q := pre_get x2.pre g1
  obtain ⟨vs0, hv, t0⟩ := rs2.obj gn eg
  simp only [RKs] at t0
  subst t0
  refine ⟨hv, kws, rfl, by rw [← rk.length]; exact hl, ?_⟩
  obtain ⟨x3, rs3⟩ := rs2.set (o := .dK (mergeD [] kvs)) (u := .dK (mergeK [] kws)) gn eg hv (fun _ z => nomatch z) (fun _ _ z => nomatch z) (fun m' H' x => ⟨_, rfl, RKs.mono x _ _ (RKs.merge rk (by simp only [RKs]))⟩)
  refine ⟨.loc S.n, _, m2, rs3, ?_, (x1.trans x2).trans x3, q2 m2 _ x3 rs3⟩
  simp only [RD]
  exact ⟨q, rfl, gn⟩⟩
end

/-! ### -x -/
def fNeg : F1 := fun d S => match d with
  | .int i => some (.int (-i), S)
  | _ => none
section
variable {X : Cx}
theorem u_neg : UnR X (unaryOp .USub) (rF1 X.K fNeg) := by
  intro pins s σ H x v Q I rx h
  obtain ⟨m, S, d0, d, S', rs, r0, e, fin⟩ := h
  unfold fNeg at e
  split at e
  · cases e
    simp only [RD] at r0
    exact un_neg pins s σ H x v Q I rx ⟨_, r0, fin m H _ (.refl _ _) rs (by simp only [RD])⟩
  · cases e
end
/-! ### a, b, c = x, y, z: plain local names -/
def sPar3 (i j l : Nat) (g : Env → M (List D)) : Sm := fun σ => sE (g σ) σ fun ds => match ds with
  | [a, b, c] => ret (.nx, ((σ.set i (some a)).set j (some b)).set l (some c))
  | _ => bad
section
variable {X : Cx} {pos : Pos}
theorem qs_par3 (i j l : Nat) {x y z : Str} {a b c : Expr} {g : Env → M (List D)} {px py pz pt : Pos} {kt k2 pt2} (hc : X.calm = true) (hN : X.N.Nodup) (ha : QA X [a, b, c] g)
    (hi : X.N[i]? = some x := by kernel_rfl) (hj : X.N[j]? = some y := by kernel_rfl) (hl : X.N[l]? = some z := by kernel_rfl) (hij : i ≠ j := by decide) (hil : i ≠ l := by decide) (hjl : j ≠ l := by decide)
    (hx : X.env.scope.names.lookup x = some .local := by kernel_rfl) (hy : X.env.scope.names.lookup y = some .local := by kernel_rfl) (hz : X.env.scope.names.lookup z = some .local := by kernel_rfl)
    (hw : swappedStores [.Tuple [.Name x px, .Name y py, .Name z pz] kt pt] (.Tuple [a, b, c] k2 pt2) X.env = pure (some [x, y, z]) := by kernel_rfl)
    (hs : swapsWithSole [.Tuple [.Name x px, .Name y py, .Name z pz] kt pt] (.Tuple [a, b, c] k2 pt2) pos.line X.env = pure false := by rfl) :
    QS X (.Assign [.Tuple [.Name x px, .Name y py, .Name z pz] kt pt] (.Tuple [a, b, c] k2 pt2) pos) (sPar3 i j l g) := ⟨fun W tk m S σ σv H Dn rs re p => by
  refine wS.of (ps_par3 hc hN hi hj hl hij hil hjl hx hy hz (paw [a, b, c]) hw hs) ?_
  intro pos' pins' s' I'
  refine thn (ha.run W tk m S σ σv H _ rs re (PostS.sE re p) pos' pins' s' I') ?_
  rintro us s2 ⟨vs, H2, I2, rv, ds, S2, m2, rs2, r2, x2, q2⟩
  refine ⟨vs, H2, I2, rv, ?_⟩
  match ds, r2, q2 with
  | [d1, d2, d3], r2, q2 =>
    simp only [RDs] at r2
    obtain ⟨v, r, rfl, rd, w, r', rfl, rd', w', r'', rfl, rd'', rfl⟩ := r2
    exact ⟨v, w, w', rfl, q2 m2 H2 _ (.refl _ _) rs2 ((((re.mono x2).set rd i).set rd' j).set rd'' l)⟩
  | [], _, q2 => exact q2.elim
  | [_], _, q2 => exact q2.elim
  | [_, _], _, q2 => exact q2.elim
  | _ :: _ :: _ :: _ :: _, _, q2 => exact q2.elim⟩
end

/-! ### defs -/
def runZ (n len : Nat) (b : Sm) : List D → M D := fun ds S => match Nat.beq ds.length n with
  | true => match b (ds.map some ++ List.replicate (len - n) none) S with
    | .ok (.nx, _) S' => .ok .non S'
    | .ok (.rt d, _) S' => .ok d S'
    | .ok (.xc x, _) S' => .exc x S'
    | _ => .bad
  | false => .bad
theorem ary_runZ {n len : Nat} {b : Sm} : Ary n (runZ n len b) := fun ds S h => by
  unfold runZ
  cases e : Nat.beq ds.length n with
  | true => exact absurd (Nat.eq_of_beq_eq_true e) h
  | false => rfl
theorem RE.start {K : PySem.W.Frag} {m : List Addr} {H : Hp} {ds : List D} {vs : List V} (r : RDs K m H ds vs) (k : Nat) : RE K m H (ds.map some ++ List.replicate k none) (vs.map some ++ List.replicate k none) := by
  refine ⟨by simp [r.length], fun i d e => ?_⟩
  by_cases h : i < ds.length
  · rw [List.getElem?_append_left (by simpa using h), List.getElem?_map] at e
    cases q : ds[i]? with
    | none => rw [q] at e; cases e
    | some d' =>
      rw [q] at e
      cases e
      obtain ⟨v, ev, rv⟩ := r.get q
      exact ⟨v, by rw [List.getElem?_append_left (by simpa [← r.length] using h), List.getElem?_map, ev]; rfl, rv⟩
  · rw [List.getElem?_append_right (by simpa using h), List.getElem?_replicate] at e
    split at e <;> cases e
section
variable {P : Program} {w : World} {K : PySem.W.Frag} {mg : Str → Option Value} {base : Heap}
theorem fn_z {x qual : Str} {params : Arguments} {body : List Stmt} {scope : Scope} {dvs : List V} {kws : List (Str × V)} {f : Addr} {fd : FuncData} {N ps : List Str} {k n : Nat} {b : Sm} (F : FunD K x qual params body scope dvs kws f fd) (Sc : FnScope N ps scope) (hn : ps.length = n)
    (hb : ∀ (cdv : Value) (A : Around) (outer : List PySem.Env) (s : Shared) (H : Hp) (E : XK), Room k (A.deeper (envOfC qual scope s.heap.objs.size f cdv)) → QSs (cxOf (L2.CX P w) P w K mg base N qual scope f cdv A outer s H E) body b) :
    FnOk P w K mg base (L2.CX P w) (k + 1) f fd ps (spZ K mg n (runZ n N.length b)) := by
  refine F.ok Sc (fun vs H Q E h => ?_) (fun cdv A outer s H vs Q E hr h => ⟨_, pssw _, ?_⟩)
  · obtain ⟨_, _, _, hl, _⟩ := h
    rw [hl, hn]
  · obtain ⟨m, S, ds, hl, rs, r, p⟩ := h
    have hd : ds.length = n := by rw [r.length, hl]
    have e : start N vs = vs.map some ++ List.replicate (N.length - n) none := by unfold start; rw [hl]
    rw [e]
    refine (hb cdv A outer s H E hr).run (fun c d _ H' => E c d H') (takes_of rfl rfl rfl rfl) m S _ _ H _ rs (RE.start r _) ?_
    unfold runZ at p
    rw [hd, show Nat.beq n n = true from Nat.beq_refl n] at p
    cases eb : b (ds.map some ++ List.replicate (N.length - n) none) S with
    | bad => simp only [eb] at p; exact p
    | exc y S' => simp only [eb] at p; exact p
    | ok y S' =>
      obtain ⟨fl, σ'⟩ := y
      cases fl with
      | nx => simp only [eb] at p; exact fun m' H' σv' x' rs' re' => p m' H' x' rs' .non (by simp only [RD])
      | bk => simp only [eb] at p; exact p.elim
      | ct => simp only [eb] at p; exact p.elim
      | rt d => simp only [eb] at p; exact fun m' H' v x' rs' rv => p m' H' x' rs' v rv
      | xc d => simp only [eb] at p; exact fun m' H' σv' c dd x' rs' re' rx => p m' H' c dd x' rs' rx
/-- at level 0 nothing is promised -/
theorem fn_z0 {f : Addr} {fd : FuncData} {ps : List Str} {n : Nat} (hn : ps.length = n) : FnOk P w K mg base (L2.CX P w) 0 f fd ps (spZ K mg n (fun _ _ => .bad)) :=
  ⟨fun vs H Q E h => by obtain ⟨_, _, _, hl, _⟩ := h; rw [hl, hn], fun A outer s H args us vs Q E hr e0 hb r h => by obtain ⟨_, _, _, _, _, _, p⟩ := h; exact p.elim⟩
end
/-- a table of bodies: how many parameters, how many names, the body by what is called -/
structure Bd where
  n : Nat
  len : Nat
  b : Orc → Sm
def callZ (bs : Nat → Option Bd) : Nat → Orc
  | 0, _, _ => bad
  | k + 1, i, ds => match bs i with
    | some d => runZ d.n d.len (d.b (callZ bs k)) ds
    | none => bad
end L2.Z

set_option Elab.async false
set_option linter.all false
set_option maxRecDepth 100000
set_option maxHeartbeats 4000000
/-! ZC: small words for printed derivations. -/
namespace L2.Z
open PySem PySem.Spec PyProof.Rows
variable [HasT]

def sBad : Sm := fun _ => bad
theorem qs_bad {X : Cx} {st : Stmt} : QS X st sBad := ⟨fun W tk m S σ σv H Dn rs re p => p.elim⟩
theorem qss_bad {X : Cx} {st : List Stmt} : QSs X st sBad := ⟨fun W tk m S σ σv H Dn rs re p => p.elim⟩
def GlT (n : Nat) (t : Tgs) : Prop := ∀ ds σ σ', t ds σ = some σ' → ds.length = n
theorem gl_nil : GlT 0 gNil' := fun ds σ σ' e => by
  cases ds with
  | nil => rfl
  | cons _ _ => cases e
theorem gl_cons {t : Tg} {u : Tgs} {n : Nat} (h : GlT n u) : GlT (n + 1) (gCons' t u) := fun ds σ σ' e => by
  cases ds with
  | nil => cases e
  | cons d r =>
    cases e1 : t d σ with
    | none => simp only [gCons', e1] at e; cases e
    | some σ1 =>
      simp only [gCons', e1, Option.bind_some] at e
      simp [h _ _ _ e]
theorem pOwn {P : Program} {w : World} {K : PySem.W.Frag} {mg : Str → Option Value} {base : Heap} {N : List Str} {qual : Str} {scope : Scope} {f : Addr} {cdv : Value} {A : Around} {outer : List PySem.Env} {s : Shared} {H : Hp} {E : XK} :
    PassesOwn (model P w) (cxOf (L2.CX P w) P w K mg base N qual scope f cdv A outer s H E).A (cxOf (L2.CX P w) P w K mg base N qual scope f cdv A outer s H E).env (cxOf (L2.CX P w) P w K mg base N qual scope f cdv A outer s H E).xe := passes_of rfl
section
variable {X : Cx} {a b c : Expr} {f g k : Env → M D} {pos : Pos} {op op' : CmpOp} {h h' : F2}
theorem tChain_mono {r r' : R2} {ta tb tc : TE} (ma : ∀ σ H Q Q', ta σ H Q → (∀ v H', Q v H' → Q' v H') → ta σ H Q') : True := trivial
theorem b_chain_val {h h' : F2} (hb' : BoolF h') {f g k : Env → M D} {σ : Env} {S S' : Sto} {d : D} (e : eChain h h' f g k σ S = .ok d S') : ∃ b, d = .bl b := by
  unfold eChain bnd up at e
  cases e1 : f σ S with
  | bad => simp only [e1] at e; cases e
  | exc _ _ => simp only [e1] at e; cases e
  | ok x S1 =>
    simp only [e1] at e
    cases e2 : g σ S1 with
    | bad => simp only [e2] at e; cases e
    | exc _ _ => simp only [e2] at e; cases e
    | ok y S2 =>
      simp only [e2] at e
      cases e3 : h x y S2 with
      | none => simp only [e3] at e; cases e
      | some z =>
        obtain ⟨z, S3⟩ := z
        simp only [e3] at e
        split at e
        · cases e4 : k σ S3 with
          | bad => simp only [e4] at e; cases e
          | exc _ _ => simp only [e4] at e; cases e
          | ok w S4 =>
            simp only [e4] at e
            cases e5 : h' y w S4 with
            | none => simp only [e5] at e; cases e
            | some q =>
              obtain ⟨q, S5⟩ := q
              simp only [e5] at e
              cases e
              exact hb' _ _ _ _ _ e5
        · cases e; exact ⟨_, rfl⟩
        · cases e
theorem qt_chain (hb' : BoolF h') (ho : OpR X (compareOp op) (rF2 X.K h)) (ho' : OpR X (compareOp op') (rF2 X.K h')) (ha : QE X a f) (hb : QE X b g) (hc : QE X c k) (hm : lastMarks [op, op'] [b, c] = false) : QT X (.Compare a [op, op'] [b, c] pos) (tV (eChain h h' f g k)) := ⟨fun W tk m S σ σv H P rs re p => by
  refine wT.of (pt_chain ho ho' (pw a) (pw b) (pw c) hm) ?_
  -- the value is a truth value
  have p2 : PostG X.K X.mg m H (eChain h h' f g k σ S) (fun d S1 m1 H1 => ∃ b, d = .bl b ∧ P b S1 m1 H1) (fun c d H' => W c d σv H') := by
    have p1 := PostG.bnd p
    cases e : eChain h h' f g k σ S with
    | bad => rw [e] at p1; exact p1
    | exc _ _ => rw [e] at p1; exact p1
    | ok d S1 =>
      rw [e] at p1
      obtain ⟨b, rfl⟩ := b_chain_val hb' e
      exact fun m' H' x rs' => ⟨b, rfl, by
        obtain ⟨b', e', q⟩ := (p1 m' H' x rs').truM rs'
        cases e'
        exact q⟩
  have rd := chain_reads ho ho' ha hb hc tk rs re p2
  have fin : ∀ v H', GV X.K m H (fun d S1 m1 H1 => ∃ b, d = .bl b ∧ P b S1 m1 H1) v H' → ∃ kk, v = .bl kk ∧ GB X.K m H P kk H' := by
    rintro v H' ⟨d, S', m', rs', r, x, b, rfl, q⟩
    simp only [RD] at r
    exact ⟨b, r, S', m', rs', x, q⟩
  refine wE.mono rd fun x H1 h1 => wE.mono h1 fun y H2 h2 => ?_
  obtain ⟨m2, S2, d1, d2, d, S', rs2, r1, r2, e, q⟩ := h2
  refine ⟨m2, S2, d1, d2, d, S', rs2, r1, r2, e, fun m' H' v x' rs' rv => ?_⟩
  obtain ⟨kk, rfl, hk⟩ := q m' H' v x' rs' rv
  refine ⟨kk, rfl, ?_⟩
  cases kk with
  | false => exact iteF (fin _ _ (by simpa using hk))
  | true =>
    have hk' : wE X c σv H' fun w' H4 => rF2 X.K h' y w' H4 (GV X.K m H (fun d S1 m1 H1 => ∃ b, d = .bl b ∧ P b S1 m1 H1)) := by simpa using hk
    refine iteT (wE.mono hk' fun z H4 h4 => ?_)
    obtain ⟨m4, S4, d4, d5, d6, S6, rs4, r4, r5, e4, q4⟩ := h4
    exact ⟨m4, S4, d4, d5, d6, S6, rs4, r4, r5, e4, fun m' H' v x' rs' rv => fin _ _ (q4 m' H' v x' rs' rv)⟩⟩
end
/-! ### the built-ins' names -/
theorem bt_int : bootBuiltins "int" = some (.type (Ty.nm .int)) := by decide +kernel
theorem bt_bool : bootBuiltins "bool" = some (.type (Ty.nm .bool)) := by decide +kernel
theorem bt_str : bootBuiltins "str" = some (.type (Ty.nm .str)) := by decide +kernel
theorem bt_tuple : bootBuiltins "tuple" = some (.type (Ty.nm .tuple)) := by decide +kernel
theorem bt_list : bootBuiltins "list" = some (.type (Ty.nm .list)) := by decide +kernel
theorem bt_dict : bootBuiltins "dict" = some (.type (Ty.nm .dict)) := by decide +kernel
theorem bb_len : bootBuiltins "len" = some (.builtin "len") := by decide +kernel
theorem bb_all : bootBuiltins "all" = some (.builtin "all") := by decide +kernel
theorem bb_any : bootBuiltins "any" = some (.builtin "any") := by decide +kernel
theorem bb_sum : bootBuiltins "sum" = some (.builtin "sum") := by decide +kernel
theorem bb_max : bootBuiltins "max" = some (.builtin "max") := by decide +kernel
theorem bb_min : bootBuiltins "min" = some (.builtin "min") := by decide +kernel
theorem bb_abs : bootBuiltins "abs" = some (.builtin "abs") := by decide +kernel
theorem bb_sorted : bootBuiltins "sorted" = some (.builtin "sorted") := by decide +kernel
theorem bb_repr : bootBuiltins "repr" = some (.builtin "repr") := by decide +kernel
/-! ### all defs of a text at a level -/
def KnAll (P : Program) (w : World) (K : PySem.W.Frag) (mg : Str → Option Value) (base : Heap) (tab : Nat → Option (Str × Nat)) (k : Nat) (c : Orc) : Prop := ∀ i x n, tab i = some (x, n) → Kn P w K mg base k x n (c i)
end L2.Z

set_option Elab.async false
set_option linter.all false
set_option maxRecDepth 100000
set_option maxHeartbeats 4000000
/-! ZX: own exception classes over any of the base classes: made with their own __init__. -/
namespace L2.Z
open PySem PySem.Spec PyProof.Rows PySem.Builtin PySem.Builtin.ObjectAttr

/-- own classes, then the mro tl -/
def endsB (tl : List Value) : List Value → Bool
  | [] => false
  | a :: r => (a :: r == tl) || (match a with
    | .ref _ => endsB tl r
    | _ => false)
theorem ends_cases {tl : List Value} {a : Value} {r : List Value} (h : endsB tl (a :: r) = true) : a :: r = tl ∨ ∃ c, a = .ref c ∧ endsB tl r = true := by
  unfold endsB at h
  rcases Bool.or_eq_true_iff.mp h with e | e
  · exact .inl (beq_iff_eq.mp e)
  · cases a with
    | ref c => exact .inr ⟨c, rfl, e⟩
    | _ => exact absurd e (by simp)
theorem ends_pass {tl : List Value} (p : ∀ self, refuseLoop self "__setattr__" tl = pure ()) (self : Value) : ∀ l, endsB tl l = true → refuseLoop self "__setattr__" l = pure ()
  | [], h => by cases h
  | a :: r, h => by
    rcases ends_cases h with e | ⟨c, rfl, e⟩
    · rw [e, p]
    · rw [refuseLoop_ref, ends_pass p self r e]
theorem ends_has {tl : List Value} (y : String) : ∀ l, endsB tl l = true → l.contains (.type y) = tl.contains (.type y)
  | [], h => by cases h
  | a :: r, h => by
    rcases ends_cases h with e | ⟨c, rfl, e⟩
    · rw [e]
    · rw [List.contains_cons, ends_has y r e]
      rfl
theorem ends_some {tl l : List Value} (h : endsB tl l = true) : l.isEmpty = false := by
  cases l with
  | nil => cases h
  | cons _ _ => rfl
/-- a base class of the language -/
structure Bas (B n i : String) (tl : List Value) : Prop where
  F : ExcBaseFacts B n i tl
  pass : ∀ self, refuseLoop self "__setattr__" tl = pure ()
  obj : tl.contains (.type "object") = true
theorem bas_VE : Bas "ValueError" "ValueError.__new__" "ValueError.__init__" PySem.HandSPX.veTail := ⟨F.excBase_ValueError, F.store_ValueError.passes, by decide +kernel⟩
theorem bas_OF : Bas "OverflowError" "OverflowError.__new__" "OverflowError.__init__" [.type "OverflowError", .type "ArithmeticError", .type "Exception", .type "BaseException", .type "object"] := ⟨F.excBase_OverflowError, F.store_OverflowError.passes, by decide +kernel⟩
theorem bas_RT : Bas "RuntimeError" "RuntimeError.__new__" "RuntimeError.__init__" [.type "RuntimeError", .type "Exception", .type "BaseException", .type "object"] := ⟨F.excBase_RuntimeError, F.store_RuntimeError.passes, by decide +kernel⟩

section
variable {prog : Program} {w : World} {A : Around} {R : Result → Shared → Prop} {hp : Heap} {g : Array GenState} {d : Drawn} {t : Nat} {os : OsState} {K : PySem.W.Frag} {f : Str} {tk : Tok} {v : Value} {x C : Addr} {fv : Array Value} {cd : ClassData} {tl : List Value}
/-- object.__setattr__ up to the own dict -/
theorem osa_go {od : Option Addr} {oD : Option Obj} (p : ∀ self, refuseLoop self "__setattr__" tl = pure ()) (ob : tl.contains (.type "object") = true) (X : K.In hp) (I : PySem.W.InstAt hp x { cls := .ref C, dict := od, data := .fields fv } C oD) (hcd : PySem.W.clsIn K C = some cd)
    (hm : endsB tl cd.mro = true) (ha : PySem.W.findIn K (.ref C) f = some none)
    (h : ∀ (E : Value → Shared → Prop) (Q : Fin → Shared → Prop), (∀ s', R (.ok (.ret .none)) s' → Q (.done (.ret .none)) s') → wpAny (model prog w) (A.under (.builtin "object.__setattr__" ⟨[.ref x, .str f tk, v], []⟩)) (storeInOwnDict (.ref x) (.ref C) (.str f tk) f v false) Q E ⟨hp, g, d, t, os⟩) :
    codeAny (model prog w) A (.call (.builtin "object.__setattr__") ⟨[.ref x, .str f tk, v], []⟩) R ⟨hp, g, d, t, os⟩ := by
  have SF := PySem.F.store_object
  have is : PySem.W.Looks (model prog w) hp (isInstance (.ref x) (.type "object")) true := by
    refine I.type.andThen (PySem.W.looks_mroIn X ?_)
    unfold PySem.W.mroIn
    rw [hcd, Option.bind_some, if_neg (by rw [ends_some hm]; decide), ends_has "object" _ hm, ob]
  refine codeAny_call_builtin SF.slot.plain SF.entry (@PySem.W.check_slot (model prog w) _ _ ⟨hp, g, d, t, os⟩ "object.__setattr__" "object" "__setattr__" (.ref x) [.str f tk, v] [] _ SF.kind SF.split is (SF.args (.ref x) (.str f tk) v) ?_)
  have l1 : PySem.W.Looks (model prog w) hp (mroOf (.ref C)) cd.mro := (PySem.W.looks_clsIn X hcd).andThen .now
  have l2 : PySem.W.Looks (model prog w) hp (storeTaker? none) none := .now
  rw [PySem.W.osa_eq, refuse_eq]
  refine wpAny_bind (wpAny_bind (I.type.at (wpAny_bind (l1.at ?_))))
  rw [ends_pass p _ _ hm]
  refine wpAny_pure (wpAny_bind (I.type.at (wpAny_bind ((PySem.W.looks_findIn X ha).at (wpAny_bind (l2.at ?_))))))
  exact h _ _ fun s' r => r
theorem osa_first (p : ∀ self, refuseLoop self "__setattr__" tl = pure ()) (ob : tl.contains (.type "object") = true) (X : K.In hp) (hx : hp.get? x = some { cls := .ref C, data := .fields fv }) (hcd : PySem.W.clsIn K C = some cd) (hm : endsB tl cd.mro = true) (hh : cd.hasDict = true)
    (ha : PySem.W.findIn K (.ref C) f = some none)
    (hq : ∀ h' tk' dx, (∀ b o, b ≠ x → hp.get? b = some o → h'.get? b = some o) → hp.objs.size ≤ dx → dx ≠ x → h'.get? x = some { cls := .ref C, dict := some dx, data := .fields fv } → h'.Ns1 dx (fun y => if y = f then some v else none) → R (.ok (.ret .none)) ⟨h', g, d, tk', os⟩) :
    codeAny (model prog w) A (.call (.builtin "object.__setattr__") ⟨[.ref x, .str f tk, v], []⟩) R ⟨hp, g, d, t, os⟩ := by
  refine osa_go (od := none) (oD := none) p ob X ⟨hx, rfl, rfl, trivial⟩ hcd hm ha fun E Q fin => ?_
  have lc : PySem.W.Looks (model prog w) hp (classData C) cd := PySem.W.looks_clsIn X hcd
  have ne : x ≠ hp.objs.size := Nat.ne_of_lt (Heap.lt_size hx)
  obtain ⟨nm, bs, mro, ns, qn, hd, sn, sb, ab, col, dl⟩ := cd
  dsimp only at hh
  subst hh
  unfold storeInOwnDict ownDictForStores
  repeat (first | with_reducible refine PySem.HandSPX.store_in_new ?_ ?_ | with_reducible refine wpAny_loadPart_at hx ?_ | with_reducible refine lc.at ?_ | wp_step)
  · exact ⟨_, #[], _, (Heap.get?_update_ne _ _ _ _ ne.symm).trans (Heap.get?_push_at rfl rfl), rfl, fun e he => absurd he (by simp), fun _ => rfl⟩
  · intro h' tk' n s
    have hx' : (hp.push { cls := .type "dict", data := .dict #[] }).get? x = some { cls := .ref C, data := .fields fv } := Heap.get?_push_of_some _ hx
    refine fin _ (hq h' tk' hp.objs.size (fun b o hb ho => ?_) (Nat.le_refl _) ne.symm ?_ n)
    · have hb' : b ≠ hp.objs.size := Nat.ne_of_lt (Heap.lt_size ho)
      rw [s.2 b hb', Heap.get?_update_ne _ _ _ _ hb]
      exact Heap.get?_push_of_some _ ho
    · rw [s.2 x ne]
      exact Heap.get?_update_self _ hx' rfl
theorem osa_more {dx : Addr} {m0 : Str → Option Value} {nl : List Str} (p : ∀ self, refuseLoop self "__setattr__" tl = pure ()) (ob : tl.contains (.type "object") = true) (X : K.In hp) (hx : hp.get? x = some { cls := .ref C, dict := some dx, data := .fields fv }) (hn : hp.Ns1 dx m0) (hw : Within m0 nl) (hz : nl.length ≤ 1000)
    (hcd : PySem.W.clsIn K C = some cd) (hm : endsB tl cd.mro = true) (hh : cd.hasDict = true) (ha : PySem.W.findIn K (.ref C) f = some none)
    (hq : ∀ h' tk', (∀ b o, b ≠ dx → hp.get? b = some o → h'.get? b = some o) → h'.Ns1 dx (fun y => if y = f then some v else m0 y) → R (.ok (.ret .none)) ⟨h', g, d, tk', os⟩) :
    codeAny (model prog w) A (.call (.builtin "object.__setattr__") ⟨[.ref x, .str f tk, v], []⟩) R ⟨hp, g, d, t, os⟩ := by
  obtain ⟨oD, _, _, hoD, _, _⟩ := hn.count hw
  refine osa_go (od := some dx) (oD := some oD) p ob X ⟨hx, rfl, rfl, hoD⟩ hcd hm ha fun E Q fin => ?_
  have lc : PySem.W.Looks (model prog w) hp (classData C) cd := PySem.W.looks_clsIn X hcd
  obtain ⟨nm, bs, mro, ns, qn, hd, sn, sb, ab, col, dl⟩ := cd
  dsimp only at hh
  subst hh
  unfold storeInOwnDict ownDictForStores
  repeat (first | with_reducible refine PySem.OEX.store_in_old hn hw hz ?_ | with_reducible refine wpAny_loadPart_at hx ?_ | with_reducible refine lc.at ?_ | wp_step)
  intro h' tk' n s
  exact fin _ (hq h' tk' (fun b o hb ho => (s.2 b hb).trans ho) n)
end

/-! ### over the abstract heap -/
/-- what the written part says of the class at C -/
structure OxC (K : PySem.W.Frag) (n : String) (tl : List Value) (C : Addr) : Prop where
  cls : ∃ nm q N bs bm sn sub ab col dd k0 k1 k2 k3 k5, K.lookup C = some (excClassObj nm q C N bs bm true sn sub ab col dd k0 k1 k2 k3 k5 n) ∧ endsB tl bm = true
  sa : PySem.W.findIn K (.ref C) "__setattr__" = some (some (.builtin "object.__setattr__"))
  exC : PySem.W.subIn K (.ref C) (.type "BaseException") = some true
  tyC : PySem.W.typeIn K (.ref C) = some (.type "type")
  kC : PySem.W.keepIn K (.ref C) = true
theorem ends_ref {tl bm : List Value} {C : Addr} (h : endsB tl bm = true) : endsB tl (.ref C :: bm) = true := by
  show ((Value.ref C :: bm == tl) || endsB tl bm) = true
  rw [h, Bool.or_true]
theorem OxC.cd {K : PySem.W.Frag} {n : String} {tl : List Value} {C : Addr} (T : OxC K n tl C) : ∃ cd, PySem.W.clsIn K C = some cd ∧ endsB tl cd.mro = true ∧ cd.hasDict = true := by
  obtain ⟨nm, q, N, bs, bm, sn, sub, ab, col, dd, k0, k1, k2, k3, k5, hC, hb⟩ := T.cls
  refine ⟨{ name := nm, bases := bs, mro := .ref C :: bm, ns := N, qualname := q, hasDict := true, slotNames := sn, subclasses := sub, abstract := ab, collection := col, hasDel := false }, ?_, ends_ref hb, rfl⟩
  unfold PySem.W.clsIn
  rw [hC]
section
variable {X : Cx} {pins : List (Addr × Obj)} {σ : St} {H : Hp} {s : Shared} {a C dx : Addr} {f : Str} {y : V} {u : Value} {fs : List (Str × V)} {Q : Unit → Shared → Prop} {E : Value → Shared → Prop} {A : Around} {B n i : String} {tl : List Value}
theorem xst_new (b : Bas B n i tl) (T : OxC X.K n tl C) (I : Inv X pins σ H s) (e : H a = some (exo a C none)) (hno : PySem.W.findIn X.K (.ref C) f = some none) (ry : RelV y u)
    (h : ∀ dx s', H dx = none → dx ≠ a → Inv X pins σ (upd (upd H dx (exd dx [(f, y)])) a (exo a C (some dx))) s' → Q () s') : wpAny (model X.prog X.w) A (setAttr (.ref a) f u) Q E s := by
  obtain ⟨cd, hcl, hm, hh⟩ := T.cd
  obtain ⟨t1, ho⟩ := exo_at I.hok e
  obtain ⟨hp, g, d, t, os⟩ := s
  refine PySem.W.set_plain I.kIn (ox := { cls := .ref C, dict := none, data := .fields #[.ref t1, .none, .none, .none, .bool false, .none] }) (od := none) ⟨ho, rfl, rfl, trivial⟩ T.sa ?_
  refine osa_first b.pass b.obj I.kIn ho hcl hm hh hno fun h' tk' dx k dn dne hx hn => ?_
  have nD : H dx = none := I.hok.fresh dn
  have neD : ∀ {c : Addr} {o : Obj}, hp.get? c = some o → c ≠ dx := fun {c o} q => Nat.ne_of_lt (Nat.lt_of_lt_of_le (Heap.lt_size q) dn)
  have neA : ∀ {c : Addr}, H c = none → c ≠ a := fun {c} n z => by subst z; rw [e] at n; cases n
  have U : Un X.fs [] H (upd (upd H dx (exd dx [(f, y)])) a (exo a C (some dx))) hp h' :=
    ⟨fun c o q n _ _ => k c o (neA n) q, fun c o q n _ _ => ⟨o.slots, k c o (neA n) q⟩, fun c o q n _ => by rw [upd_ne (neA n), upd_ne (neD q)]; exact n,
     fun c o q _ => by
      by_cases hc : c = a
      · subst hc; exact ⟨_, hx⟩
      · exact ⟨o, k c o hc q⟩,
     fun c xs q => by rw [upd_ne (at_ne e q exo_tup), upd_ne (ne_of_none q nD)]; exact q,
     fun c o v q => by rw [upd_ne (at_ne e q exo_frz), upd_ne (ne_of_none q nD)]; exact q,
     fun c ps q => ⟨#[], by rw [upd_ne (at_ne e q exo_tbl), upd_ne (ne_of_none q nD), q]; simp⟩⟩
  refine h dx _ nD dne (I.un (t' := tk') U fun c o q => ?_)
  by_cases hc : c = a
  · subst hc
    rw [upd_same] at q
    cases q
    exact exo_ok hx
  rw [upd_ne hc] at q
  by_cases hd : c = dx
  · subst hd
    rw [upd_same] at q
    cases q
    exact exd_ok hn (relO_put (fs := []) ry fun g => True.intro)
  rw [upd_ne hd] at q
  refine (I.hok c o q).stay (fun c' v hc' z => k c' v ?_ z) (fun c' hc' => by rw [upd_ne (at_ne e hc' exo_own), upd_ne (ne_of_none hc' nD)]; exact hc') (fun c' xs hc' => by rw [upd_ne (at_ne e hc' exo_tup), upd_ne (ne_of_none hc' nD)]; exact hc')
  rcases hc' with z | z
  · rw [z]; exact hc
  · exact at_ne e z exo_own
theorem xst_old (b : Bas B n i tl) (T : OxC X.K n tl C) (I : Inv X pins σ H s) (e : H a = some (exo a C (some dx))) (ed : H dx = some (exd dx fs)) (hl : fs.length ≤ 900) (hno : PySem.W.findIn X.K (.ref C) f = some none) (ry : RelV y u)
    (h : ∀ s', Inv X pins σ (upd H dx (exd dx ((f, y) :: fs))) s' → Q () s') : wpAny (model X.prog X.w) A (setAttr (.ref a) f u) Q E s := by
  obtain ⟨cd, hcl, hm, hh⟩ := T.cd
  obtain ⟨t1, ho⟩ := exo_at I.hok e
  obtain ⟨mA, hns, rel⟩ := exd_at I.hok ed
  obtain ⟨hp, g, d, t, os⟩ := s
  obtain ⟨oD, _, _, hoD, _, _⟩ := hns.count (within_of rel)
  refine PySem.W.set_plain I.kIn (ox := { cls := .ref C, dict := some dx, data := .fields #[.ref t1, .none, .none, .none, .bool false, .none] }) (od := some oD) ⟨ho, rfl, rfl, hoD⟩ T.sa ?_
  refine osa_more b.pass b.obj I.kIn ho hns (within_of rel) (by rw [List.length_map]; omega) hcl hm hh hno fun h' tk' k hn => ?_
  refine h _ (I.write (t' := tk') (x := dx) (e := dx) (o := exd dx ((f, y) :: fs)) (by rw [ed]; exact True.intro) (.inl rfl) k ?_ (exd_ok hn (relO_put ry rel)))
  obtain ⟨o, _, _, z, _⟩ := hn
  exact ⟨o, z⟩
/-- Base.__init__(self, ..) -/
theorem xinit_ok {us : List Value} {Q : Value → Shared → Prop} (b : Bas B n i tl) (T : OxC X.K n tl C) (I : Inv X pins σ H s) (e : H a = some (exo a C none)) (hl : us.length ≤ sizeLine) (h : ∀ s', Inv X pins σ H s' → Q .none s') :
    wpAny (model X.prog X.w) A (call (.builtin i) (.ref a :: us)) Q E s := by
  obtain ⟨nm, q, N, bs, bm, sn, sub, ab, col, dd, k0, k1, k2, k3, k5, hC, hb⟩ := T.cls
  obtain ⟨t1, ho⟩ := exo_at I.hok e
  obtain ⟨hp, g, d, t, os⟩ := s
  refine wpAny_call (PySem.HandSPX.init_base b.F (fun Y => ends_has Y bm hb) (I.kIn _ _ hC) ho hl fun h' t2 k hx => h _ ?_)
  have J := I.write (t' := t) (x := a) (e := a) (o := exo a C none) (by rw [e]; exact True.intro) (.inl rfl) k ⟨_, hx⟩ (exo_ok hx)
  have eu : upd H a (exo a C none) = H := funext fun c => by
    by_cases hc : c = a
    · subst hc; rw [upd_same, e]
    · rw [upd_ne hc]
  rw [eu] at J
  exact J
end

/-! ### readings -/
def tXi (K : PySem.W.Frag) (n : String) (tl : List Value) (ta : TA) : TE := fun σ H Q => ta σ H fun vs H1 => ∃ (a C : Addr) (ws : List V), vs = .ref a :: ws ∧ ws.length ≤ 1000 ∧ OxC K n tl C ∧ H1 a = some (exo a C none) ∧ Q .non H1
def tXs (K : PySem.W.Frag) (n : String) (tl : List Value) (f : Str) (to te : TE) : TS := fun D σ H => te σ H fun y H1 => to σ H1 fun x H2 => ∃ a C : Addr, x = .ref a ∧ OxC K n tl C ∧ PySem.W.findIn K (.ref C) f = some none ∧
  ((H2 a = some (exo a C none) ∧ ∀ dx, H2 dx = none → dx ≠ a → D.nx σ (upd (upd H2 dx (exd dx [(f, y)])) a (exo a C (some dx)))) ∨
    ∃ (dx : Addr) (fs : List (Str × V)), H2 a = some (exo a C (some dx)) ∧ H2 dx = some (exd dx fs) ∧ fs.length ≤ 900 ∧ D.nx σ (upd H2 dx (exd dx ((f, y) :: fs))))
/-- what the written part says of the base that __init__ calls: an own class -/
structure OwnB (K : PySem.W.Frag) (mg : Str → Option Value) (x : Str) (i : String) (Q : Addr) : Prop where
  g : mg x = some (.ref Q)
  sp : PySem.W.specialIn K (.ref Q) "__getattribute__" = some (some (.builtin "type.__getattribute__"))
  ty : PySem.W.typeIn K (.ref Q) = some (.type "type")
  rd : PySem.W.readsIn K Q (.type "type") = true
  at_ : PySem.W.findCls K (.ref Q) (.type "type") "__init__" = some (.val (.builtin i))
  hd : PySem.W.handedIn (.builtin i) = true
section
variable {X : Cx} {o e : Expr} {es : List Expr} {to te : TE} {ta : TA} {f x : Str} {p p' p1 p2 pos : Pos} {B n i : String} {tl : List Value}
theorem pe_xinit {pl : Sem Bool} {Q : Addr} (b : Bas B n i tl) (hg : Gl X x) (O : OwnB X.K X.mg x i Q) (ha : PA X (e :: es) ta) (hdb : (x == ("__debug__" : Str)) = false := by decide)
    (hc : eval (.Call (.Attribute (.Name x p1) "__init__" p2) (e :: es) [] pos) X.env = (do
      let ov ← eval (.Name x p1) X.env
      standAt p2.atName
      let (f, first) ← holding [ov] (getMethod ov "__init__" pl)
      callWith pos f first (backTo pos (starEach (e :: es) X.env)) (backToKw pos (keywordEach [] X.env))) := by rfl)
    (he : starEach (e :: es) X.env = (false, eval e X.env) :: starEach es X.env := by rfl) (hpl : (backTo pos (starEach es X.env)).any (·.1) = false := by rfl) :
    PE X (.Call (.Attribute (.Name x p1) "__init__" p2) (e :: es) [] pos) (tXi X.K n tl ta) := by
  refine ⟨fun pins s σ H Q' I h => ?_⟩
  refine PySem.W.methodCall_KW (ld_glob I hg O.g ?_ hdb) hc
  obtain ⟨m, fr⟩ := I.fr
  refine PySem.W.method_of_cls fr I.ok.mod.kin O.sp (PySem.W.cls_val fr I.ok.mod.kin O.ty O.rd O.at_ O.hd ?_)
  refine PyProof.Rows.callWith_method1 (thn (ha.run pos pins _ σ H _ (I.tok _) h) fun us s1 ⟨vs, H1, I1, r1, a, C, ws, ev, hl, T, ea, q⟩ => ?_) he hpl
  subst ev
  cases r1 with
  | @cons _ u0 _ ur ra rw' =>
    have ea' : u0 = Value.ref a := ra
    subst ea'
    refine xinit_ok b T I1 ea ?_ fun s' J => ⟨.non, H1, J, rfl, q⟩
    have := Paired.length rw'
    rw [sizeLine_eq]
    omega
theorem pe_xinitB {pl : Sem Bool} (b : Bas B n i tl) (hg : Gl X x) (hm : X.mg x = none) (hv : bootBuiltins x = some (.type B)) (ht : typeOf (.type B) = pure (.type "type")) (hst : Manifest.isStub B = false) (at_ : PySem.W.findCls X.K (.type B) (.type "type") "__init__" = some (.val (.builtin i))) (hh : PySem.W.handedIn (.builtin i) = true)
    (ha : PA X (e :: es) ta) (hnn : x ≠ "__name__" := by decide) (hdb : (x == ("__debug__" : Str)) = false := by decide)
    (hc : eval (.Call (.Attribute (.Name x p1) "__init__" p2) (e :: es) [] pos) X.env = (do
      let ov ← eval (.Name x p1) X.env
      standAt p2.atName
      let (f, first) ← holding [ov] (getMethod ov "__init__" pl)
      callWith pos f first (backTo pos (starEach (e :: es) X.env)) (backToKw pos (keywordEach [] X.env))) := by rfl)
    (he : starEach (e :: es) X.env = (false, eval e X.env) :: starEach es X.env := by rfl) (hpl : (backTo pos (starEach es X.env)).any (·.1) = false := by rfl) :
    PE X (.Call (.Attribute (.Name x p1) "__init__" p2) (e :: es) [] pos) (tXi X.K n tl ta) := by
  refine ⟨fun pins s σ H Q' I h => ?_⟩
  refine PySem.W.methodCall_KW (ld_blt I hg hm hv ?_ hnn hdb) hc
  obtain ⟨m, fr⟩ := I.fr
  refine PySem.W.method_type fr I.ok.mod.kin ht hst at_ hh ?_
  refine PyProof.Rows.callWith_method1 (thn (ha.run pos pins _ σ H _ (I.tok _) h) fun us s1 ⟨vs, H1, I1, r1, a, C, ws, ev, hl, T, ea, q⟩ => ?_) he hpl
  subst ev
  cases r1 with
  | @cons _ u0 _ ur ra rw' =>
    have ea' : u0 = Value.ref a := ra
    subst ea'
    refine xinit_ok b T I1 ea ?_ fun s' J => ⟨.non, H1, J, rfl, q⟩
    have := Paired.length rw'
    rw [sizeLine_eq]
    omega
theorem ps_xst (b : Bas B n i tl) (ho : PE X o to) (he : PE X e te) (hs : swapsWith e (some (.Attribute o f p')) pos.line X.env = pure false := by rfl) : PS X (.Assign [.Attribute o f p'] e pos) (tXs X.K n tl f to te) := by
  refine ⟨fun pins s σ H D I h => ?_⟩
  refine plainObj_wpAny_Assign_Attribute (thn (he.run pins s σ H _ I h) fun v s1 ⟨y, H1, I1, r1, q1⟩ => ?_) hs
  refine thn (ho.run pins s1 σ H1 _ I1 q1) fun u s2 ⟨x, H2, I2, r2, a, C, ex, T, hno, q⟩ => ?_
  subst ex
  have ea : u = Value.ref a := r2
  subst ea
  rcases q with ⟨e1, q⟩ | ⟨dx, fs, e1, e2, hl, q⟩
  · exact xst_new b T I2 e1 hno r1 fun dx s' n ne J => ⟨σ, _, J, q dx n ne⟩
  · exact xst_old b T I2 e1 e2 hl hno r1 fun s' J => ⟨σ, _, J, q⟩
/-- C(e, ..), C's own __init__ keeping sp -/
theorem pmk_x {CX : CXT} {C fI : Addr} {k : Nat} {fd : FuncData} {ps : List Str} {sp : Sp} (b : Bas B n i tl) (T : OxC X.K n tl C) (iC : PySem.W.findIn X.K (.ref C) "__init__" = some (some (.ref fI))) (tI : PySem.W.typeIn X.K (.ref fI) = some (.type "function"))
    (F1 : FnOk X.prog X.w X.K X.mg X.base CX k fI fd ps sp) (hr : Room (k + 1) X.A) (hb : Binds X.K fd ps []) (hx : Passes CX X (fun _ _ _ => False)) (hg : Gl X x) (hm : X.mg x = some (.ref C)) (ha : PA X (e :: es) ta)
    (hdb : (x == ("__debug__" : Str)) = false := by decide) (he : starEach (e :: es) X.env = (false, eval e X.env) :: starEach es X.env := by rfl) (hpl : (backTo pos (starEach es X.env)).any (·.1) = false := by rfl) :
    PMk X (.Call (.Name x p) (e :: es) [] pos) (tMkO C sp [] ta) := by
  intro pins s σ H Q I h
  obtain ⟨nm, q, N, bs, bm, sn, sub, ab, col, dd, k0, k1, k2, k3, k5, hC, hbm⟩ := T.cls
  refine wpAny_Call_Name_kw (ld_glob I hg hm ?_ hdb)
  refine PySem.W.callWith_K (h₀ := X.base) I.ok.mod.kin T.kC (thn (ha.run pos pins s σ H _ I h) fun us s1 ⟨vs, H1, I1, r1, hz, q1⟩ => ⟨I1.kIn, ?_⟩) he hpl
  show wpAny _ _ (call (.ref C) us) _ _ _
  obtain ⟨hp, g, dr, tk, os⟩ := s1
  generalize ew : hp.objs.size + 1 = a at *
  have ha1 : hp.objs.size ≤ a := by omega
  have nH : H1 a = none := I1.hok.fresh ha1
  have hq := q1 a nH
  generalize eh : (hp.push (PySem.W.kdv_tup us)).push (PySem.HandSPX.excO C hp.objs.size) = h2
  have kk : ∀ c o, hp.get? c = some o → h2.get? c = some o := fun c o z => by rw [← eh]; exact Heap.get?_push_of_some _ (Heap.get?_push_of_some _ z)
  have at2 : h2.get? a = some (PySem.HandSPX.excO C hp.objs.size) := by rw [← eh, ← ew]; heap_get
  have I2 : Inv X pins σ (upd H1 a (exo a C none)) ⟨h2, g, dr, tk, os⟩ := I1.laid (t' := tk) (a := a) (o := exo a C none) (h' := h2) kk ha1 (exo_ok at2)
  have r2 : Vals (V.ref a :: (vs ++ [])) (Value.ref a :: (us ++ [])) := .cons rfl (r1.append .nil)
  have hl : (Value.ref a :: us ++ []).length = ps.length := by
    rw [← F1.len _ _ _ _ hq]
    exact r2.length.symm
  have hus : us.length ≤ sizeLine := by
    have := Paired.length r1
    rw [sizeLine_eq]
    omega
  refine wpAny_call (PySem.HandSPX.call_own b.F (fun Y => ends_has Y bm hbm) (I1.kIn _ _ hC) (PySem.W.looks_findIn I1.kIn iC) (fun self => PySem.W.bind_fn I1.kIn self tI) hus ?_)
  rw [ew, eh]
  refine codeAny_mono (F1.run _ X.stack _ _ ⟨Value.ref a :: us, []⟩ (Value.ref a :: (us ++ [])) _ _ (fun _ _ _ => False) (hr.make C us []) (I2.env0.make C us []) (by have z := hb ⟨h2, g, dr, tk, os⟩ (Value.ref a :: us) I2.kIn hl; rw [List.cons_append] at z; exact z) r2 hq) fun r s' hq' => ?_
  cases r with
  | error er => exact hx pins σ _ _ er s' I2 hq'
  | ok fl =>
    cases fl with
    | ret u =>
      obtain ⟨v, H2, os2, bare2, un2, hok2, rv, ev, d, fs, ea, ed, hd1, q2⟩ := hq'
      subst ev
      obtain ⟨h3, g2, d2, t2, os'⟩ := s'
      exact ⟨rv, mk_end (raises_own T.exC T.tyC) I1 ha1 kk un2 hok2 os2 bare2 ea ed hd1 q2⟩
    | next => exact False.elim hq'
    | brk => exact False.elim hq'
    | cont => exact False.elim hq'
end
end L2.Z

set_option Elab.async false
set_option linter.all false
set_option maxRecDepth 100000
set_option maxHeartbeats 4000000
/-! ZY: own exceptions: their __init__, raise. -/
namespace L2.Z
open PySem PySem.Spec PyProof.Rows
variable [HasT]

/-- what an own __init__ does: the fields fs, in turn -/
def spI (C : Addr) (fs : List Str) : Sp := fun vs H Q _ => ∃ (a : Addr) (ys : List V), vs = .ref a :: ys ∧ ys.length = fs.length ∧ H a = some (exo a C none) ∧ ∀ dx, H dx = none → dx ≠ a → Q .non (upd (upd H dx (exd dx (fs.zip ys).reverse)) a (exo a C (some dx)))
/-- the written part's say on a class x made with the fields fs -/
structure KX (P : Program) (w : World) (K : PySem.W.Frag) (mg : Str → Option Value) (base : Heap) (x : Str) (fs : List Str) : Prop where
  ex : ∃ B n i tl fI fd ps, Bas B n i tl ∧ OxC K n tl (He.ga K x) ∧ mg x = some (.ref (He.ga K x)) ∧ PySem.W.findIn K (.ref (He.ga K x)) "__init__" = some (some (.ref fI)) ∧ PySem.W.typeIn K (.ref fI) = some (.type "function") ∧
    FnOk P w K mg base (L2.CX P w) 1 fI fd ps (spI (He.ga K x) fs) ∧ Binds K fd ps []
/-- raise x(..) -/
def sRaise (x : Str) (fs : List Str) (g : Env → M (List D)) : Sm := fun σ => sE (g σ) σ fun ds => match Nat.beq ds.length fs.length with
  | true => ret (.xc ⟨x, fs.reverse, ds.reverse⟩, σ)
  | false => bad
theorem RDs.app {K : PySem.W.Frag} {m : List Addr} {H : Hp} : ∀ {a c : List D} {b d : List V}, RDs K m H a b → RDs K m H c d → RDs K m H (a ++ c) (b ++ d)
  | [], c, b, d, h, q => by
    simp only [RDs] at h
    subst h
    exact q
  | x :: a, c, b, d, h, q => by
    simp only [RDs] at h
    obtain ⟨v, r, rfl, rd, rr⟩ := h
    simp only [List.cons_append, RDs]
    exact ⟨v, r ++ d, rfl, rd, RDs.app rr q⟩
theorem RDs.rev {K : PySem.W.Frag} {m : List Addr} {H : Hp} : ∀ {a : List D} {b : List V}, RDs K m H a b → RDs K m H a.reverse b.reverse
  | [], b, h => by
    simp only [RDs] at h
    subst h
    simp [RDs]
  | x :: a, b, h => by
    simp only [RDs] at h
    obtain ⟨v, r, rfl, rd, rr⟩ := h
    simp only [List.reverse_cons]
    exact RDs.app (RDs.rev rr) (by simp only [RDs]; exact ⟨v, [], rfl, rd, rfl⟩)
theorem zip_rev {α β : Type} : ∀ (a : List α) (b : List β), a.length = b.length → (a.zip b).reverse = a.reverse.zip b.reverse
  | [], b, h => by simp
  | x :: a, [], h => by cases h
  | x :: a, y :: b, h => by
    simp only [List.length_cons, Nat.add_right_cancel_iff] at h
    simp only [List.zip_cons_cons, List.reverse_cons]
    rw [zip_rev a b h, List.zip_append (by simp [h])]
    rfl
section
variable {X : Cx} {e : Expr} {es : List Expr} {g : Env → M (List D)} {x : Str} {fs : List Str} {p pos pos' : Pos} {k : Nat}
theorem qs_raise (F : KX X.prog X.w X.K X.mg X.base x fs) (hr : Room k X.A) (h2 : 2 ≤ k) (hc : X.calm = true) (ha : QA X (e :: es) g) (hg : glB X.env.scope x = true := by kernel_rfl) (he : PySem.W.isStarred e = false := by rfl) (hpl : es.any PySem.W.isStarred = false := by rfl) (hlen : fs.length ≤ 1000 := by decide) :
    QS X (.Raise (some (.Call (.Name x p) (e :: es) [] pos)) none pos') (sRaise x fs g) := ⟨fun W tk m S σ σv H Dn rs re p => by
  obtain ⟨B, n, i, tl, fI, fd, ps, b, T, hm, iC, tI, F1, hb⟩ := F.ex
  generalize eC : He.ga X.K x = C at *
  refine wS.of (ps_raise hc tk (pmk_x b T iC tI F1 (hr.mono h2) hb (passes_call tk fun _ _ _ _ z => z.elim) (glB_ok hg).1 hm (paw (e :: es)) (glB_ok hg).2.1 (star1 he) (star2 hpl))) ?_
  intro pos' pins' s' I'
  refine thn (ha.run W tk m S σ σv H _ rs re (PostS.sE re p) pos' pins' s' I') ?_
  rintro us s2 ⟨vs, H2, I2, rv, ds, S2, m2, rs2, r2, x2, q2⟩
  refine ⟨vs, H2, I2, rv, ?_⟩
  cases el : Nat.beq ds.length fs.length with
  | false => rw [el] at q2; exact q2.elim
  | true =>
    rw [el] at q2
    have hl : vs.length = fs.length := by rw [← r2.length]; exact Nat.eq_of_beq_eq_true el
    refine ⟨by rw [hl]; exact hlen, fun a na => ?_⟩
    rw [List.append_nil]
    refine ⟨a, vs, rfl, hl, upd_same, fun dx nd ne => ⟨rfl, dx, (fs.zip vs).reverse, upd_same, ?_, ?_, ?_⟩⟩
    · rw [upd_ne ne, upd_same]
    · rw [upd_ne ne] at nd; exact nd
    · rw [upd_ne ne] at nd
      have key : upd (del (upd (upd (upd H2 a (exo a C none)) dx (exd dx (fs.zip vs).reverse)) a (exo a C (some dx))) a) dx (.xd (fs.zip vs).reverse) = upd H2 dx (.xd (fs.zip vs).reverse) := by
        funext c
        by_cases hd : c = dx
        · subst hd; rw [upd_same, upd_same]
        · rw [upd_ne hd, upd_ne hd]
          by_cases hc : c = a
          · subst hc; rw [del_same, na]
          · rw [del_ne hc, upd_ne hc, upd_ne hd, upd_ne hc]
      rw [key]
      have xx : Ext m2 H2 m2 (upd H2 dx (.xd (fs.zip vs).reverse)) := .new nd
      exact q2 m2 _ σv _ _ xx (rs2.new nd) ((re.mono x2).mono xx) ⟨dx, vs.reverse, by rw [eC]; exact hm, by rw [eC], rfl, by rw [upd_same, zip_rev fs vs hl.symm], RDs.rev (RDs.mono xx _ _ r2)⟩⟩
end

/-! ### an own __init__ walked -/
section
variable {P : Program} {w : World} {K : PySem.W.Frag} {mg : Str → Option Value} {base : Heap} {qual bn sf pr pr2 f1 f2 m : Str} {params : Arguments} {scope : Scope} {fI C : Addr} {fd : FuncData} {B n i : String} {tl : List Value}
  {p1 p2 p3 p4 p5 p6 p7 p8 p9 p10 p11 p12 p13 p14 : Pos} {j : Nat}
abbrev iCall (bn sf m : Str) (j : Nat) (p1 p2 p3 p4 p5 p6 : Pos) : Stmt := .Expr (.Call (.Attribute (.Name bn p1) "__init__" p2) [.Name sf p3, .Constant (.str m) j p4] [] p5) p6
abbrev iSet (sf f pr : Str) (p1 p2 p3 p4 : Pos) : Stmt := .Assign [.Attribute (.Name sf p1) f p2] (.Name pr p3) p4
/-- how the base is called there -/
def BaseCall (P : Program) (w : World) (K : PySem.W.Frag) (mg : Str → Option Value) (base : Heap) (bn sf : Str) (n : String) (tl : List Value) (N : List Str) (qual : Str) (scope : Scope) (fI : Addr) : Prop :=
  ∀ (cdv : Value) (A : Around) (outer : List PySem.Env) (s : Shared) (H : Hp) (E : XK) (m : Str) (j : Nat) (p1 p2 p3 p4 p5 : Pos) (ta : TA), (p2.endLine == p5.line) = true →
    PA (cxOf (L2.CX P w) P w K mg base N qual scope fI cdv A outer s H E) [.Name sf p3, .Constant (.str m) j p4] ta →
    PE (cxOf (L2.CX P w) P w K mg base N qual scope fI cdv A outer s H E) (.Call (.Attribute (.Name bn p1) "__init__" p2) [.Name sf p3, .Constant (.str m) j p4] [] p5) (tXi K n tl ta)
theorem init_1 (b : Bas B n i tl) (T : OxC K n tl C) (h1 : PySem.W.findIn K (.ref C) f1 = some none) (F : FunD K "__init__" qual params [iCall bn sf m j p1 p2 p3 p4 p5 p6, iSet sf f1 pr p7 p8 p9 p10] scope [] [] fI fd) (Sc : FnScope [sf, pr] [sf, pr] scope) (nm : NmOk [sf, pr])
    (hln : (p2.endLine == p5.line) = true) (vs : visB scope sf = true) (vp : visB scope pr = true) (BC : BaseCall P w K mg base bn sf n tl [sf, pr] qual scope fI) : FnOk P w K mg base (L2.CX P w) 1 fI fd [sf, pr] (spI C [f1]) := by
  have n1 := nm sf (by simp)
  have n2 := nm pr (by simp)
  refine F.ok Sc (fun vs H Q E h => ?_) (fun cdv A outer s H xs Q E hr h => ?_)
  · obtain ⟨a, ys, rfl, hl, _⟩ := h
    simpa using hl
  obtain ⟨a, ys, rfl, hl, ha, q⟩ := h
  match ys, hl, q with
  | [y], _, q =>
    refine ⟨_, pss_cons (ps_expr (BC cdv A outer s H E m j p1 p2 p3 p4 p5 _ hln (pa_cons (pe_var (i := 0) rfl (visB_ok vs) n1.1 n1.2) (pa_cons pe_str pa_nil)))) (pss_one (ps_xst (p' := p8) b (pe_var (i := 0) rfl (visB_ok vs) n1.1 n1.2) (pe_var (i := 1) rfl (visB_ok vp) n2.1 n2.2))), ?_⟩
    refine ⟨.ref a, rfl, a, C, [.str m], rfl, by simp, T, ha, ?_⟩
    exact ⟨y, rfl, .ref a, rfl, a, C, rfl, T, h1, .inl ⟨ha, fun dx nd ne => q dx nd ne⟩⟩
theorem init_2 (b : Bas B n i tl) (T : OxC K n tl C) (h1 : PySem.W.findIn K (.ref C) f1 = some none) (h2 : PySem.W.findIn K (.ref C) f2 = some none)
    (F : FunD K "__init__" qual params [iCall bn sf m j p1 p2 p3 p4 p5 p6, iSet sf f1 pr p7 p8 p9 p10, iSet sf f2 pr2 p11 p12 p13 p14] scope [] [] fI fd) (Sc : FnScope [sf, pr, pr2] [sf, pr, pr2] scope) (nm : NmOk [sf, pr, pr2])
    (hln : (p2.endLine == p5.line) = true) (vs : visB scope sf = true) (vp : visB scope pr = true) (vp2 : visB scope pr2 = true) (BC : BaseCall P w K mg base bn sf n tl [sf, pr, pr2] qual scope fI) : FnOk P w K mg base (L2.CX P w) 1 fI fd [sf, pr, pr2] (spI C [f1, f2]) := by
  have n1 := nm sf (by simp)
  have n2 := nm pr (by simp)
  have n3 := nm pr2 (by simp)
  refine F.ok Sc (fun vs H Q E h => ?_) (fun cdv A outer s H xs Q E hr h => ?_)
  · obtain ⟨a, ys, rfl, hl, _⟩ := h
    simpa using hl
  obtain ⟨a, ys, rfl, hl, ha, q⟩ := h
  match ys, hl, q with
  | [y, z], _, q =>
    refine ⟨_, pss_cons (ps_expr (BC cdv A outer s H E m j p1 p2 p3 p4 p5 _ hln (pa_cons (pe_var (i := 0) rfl (visB_ok vs) n1.1 n1.2) (pa_cons pe_str pa_nil))))
      (pss_cons (ps_xst (p' := p8) b (pe_var (i := 0) rfl (visB_ok vs) n1.1 n1.2) (pe_var (i := 1) rfl (visB_ok vp) n2.1 n2.2)) (pss_one (ps_xst (p' := p12) b (pe_var (i := 0) rfl (visB_ok vs) n1.1 n1.2) (pe_var (i := 2) rfl (visB_ok vp2) n3.1 n3.2)))), ?_⟩
    refine ⟨.ref a, rfl, a, C, [.str m], rfl, by simp, T, ha, ?_⟩
    refine ⟨y, rfl, .ref a, rfl, a, C, rfl, T, h1, .inl ⟨ha, fun dx nd ne => ?_⟩⟩
    refine ⟨z, rfl, .ref a, rfl, a, C, rfl, T, h2, .inr ⟨dx, [(f1, y)], upd_same, by rw [upd_ne ne, upd_same], by simp, ?_⟩⟩
    have key : upd (upd (upd H dx (exd dx [(f1, y)])) a (exo a C (some dx))) dx (exd dx [(f2, z), (f1, y)]) = upd (upd H dx (exd dx [(f2, z), (f1, y)])) a (exo a C (some dx)) := by
      funext c
      by_cases hd : c = dx
      · subst hd; rw [upd_same, upd_ne ne, upd_same]
      · rw [upd_ne hd]
        by_cases hc : c = a
        · subst hc; rw [upd_same, upd_same]
        · rw [upd_ne hc, upd_ne hc, upd_ne hd, upd_ne hd]
    show Q .non (upd (upd (upd H dx (exd dx [(f1, y)])) a (exo a C (some dx))) dx (exd dx [(f2, z), (f1, y)]))
    rw [key]
    exact q dx nd ne
theorem init_eval {env : PySem.Env} {x sf m : Str} {j : Nat} {p1 p2 p3 p4 p5 : Pos} (hl : (p2.endLine == p5.line) = true) : eval (.Call (.Attribute (.Name x p1) "__init__" p2) [.Name sf p3, .Constant (.str m) j p4] [] p5) env = (do
      let ov ← eval (.Name x p1) env
      standAt p2.atName
      let (f, first) ← holding [ov] (getMethod ov "__init__" (plainOf (.Name x p1) env))
      callWith p5 f first (backTo p5 (starEach [.Name sf p3, .Constant (.str m) j p4] env)) (backToKw p5 (keywordEach [] env))) := by
  have e : eval (.Call (.Attribute (.Name x p1) "__init__" p2) [.Name sf p3, .Constant (.str m) j p4] [] p5) env = (do
      let ov ← eval (.Name x p1) env
      standAt p2.atName
      methodCall (.Name x p1) "__init__" p2 p5 env ov 2 (backTo p5 (starEach [.Name sf p3, .Constant (.str m) j p4] env)) (backToKw p5 (keywordEach [] env))) := by rfl
  rw [e]
  congr 1
  funext ov
  rw [mcall_line (by rfl) hl]
theorem bc_own {N : List Str} {Q : Addr} (b : Bas B n i tl) (hg : glB scope bn = true) (O : OwnB K mg bn i Q) : BaseCall P w K mg base bn sf n tl N qual scope fI := fun cdv A outer s H E m j p1 p2 p3 p4 p5 ta hl ha =>
  pe_xinit b (glB_ok (X := cxOf (L2.CX P w) P w K mg base N qual scope fI cdv A outer s H E) hg).1 O ha (glB_ok (X := cxOf (L2.CX P w) P w K mg base N qual scope fI cdv A outer s H E) hg).2.1 (init_eval hl)
theorem bc_blt {N : List Str} (b : Bas B n i tl) (hg : glB scope bn = true) (hm : mg bn = none) (hv : bootBuiltins bn = some (.type B)) (ht : typeOf (.type B) = pure (.type "type")) (hst : Manifest.isStub B = false) (at_ : PySem.W.findCls K (.type B) (.type "type") "__init__" = some (.val (.builtin i)))
    (hh : PySem.W.handedIn (.builtin i) = true) : BaseCall P w K mg base bn sf n tl N qual scope fI := fun cdv A outer s H E m j p1 p2 p3 p4 p5 ta hl ha =>
  pe_xinitB b (glB_ok (X := cxOf (L2.CX P w) P w K mg base N qual scope fI cdv A outer s H E) hg).1 hm hv ht hst at_ hh ha (glB_ok (X := cxOf (L2.CX P w) P w K mg base N qual scope fI cdv A outer s H E) hg).2.2 (glB_ok (X := cxOf (L2.CX P w) P w K mg base N qual scope fI cdv A outer s H E) hg).2.1 (init_eval hl)
end
/-! ### the written part looked at -/
def oxB (K : PySem.W.Frag) (C : Addr) (n : String) (tl : List Value) : Bool := (match K.lookup C with
  | some ⟨.type "type", _, .cls cd, sl⟩ => (match cd.mro, sl.toList with
    | .ref C' :: bm, [_, _, _, _, some (.builtin n'), _] => C' == C && n' == n && !cd.hasDel && cd.hasDict && endsB tl bm
    | _, _ => false)
  | _ => false) && decide (PySem.W.findIn K (.ref C) "__setattr__" = some (some (.builtin "object.__setattr__"))) && decide (PySem.W.subIn K (.ref C) (.type "BaseException") = some true) && decide (PySem.W.typeIn K (.ref C) = some (.type "type")) && PySem.W.keepIn K (.ref C)
theorem oxB_ok {K : PySem.W.Frag} {C : Addr} {n : String} {tl : List Value} (h : oxB K C n tl = true) : OxC K n tl C := by
  unfold oxB at h
  simp only [Bool.and_eq_true, decide_eq_true_eq] at h
  obtain ⟨⟨⟨⟨h1, h2⟩, h3⟩, h4⟩, h5⟩ := h
  refine ⟨?_, h2, h3, h4, h5⟩
  split at h1
  · rename_i dd cd sl ho
    split at h1
    · rename_i C' bm k0 k1 k2 k3 n' k5 hm hs
      simp only [Bool.and_eq_true, beq_iff_eq, Bool.not_eq_true'] at h1
      obtain ⟨⟨⟨⟨rfl, rfl⟩, hdel⟩, hdic⟩, ht⟩ := h1
      obtain ⟨nm, bs, mro, ns, qn, hd, sn, sub, ab, col, dl⟩ := cd
      dsimp only at hm hdel hdic
      subst hm hdel hdic
      obtain ⟨l⟩ := sl
      dsimp only at hs
      subst hs
      exact ⟨nm, qn, ns, bs, bm, sn, sub, ab, col, dd, k0, k1, k2, k3, k5, ho, ht⟩
    · cases h1
  · cases h1
def ownBB (K : PySem.W.Frag) (Q : Addr) (i : String) : Bool := decide (PySem.W.specialIn K (.ref Q) "__getattribute__" = some (some (.builtin "type.__getattribute__"))) && decide (PySem.W.typeIn K (.ref Q) = some (.type "type")) && PySem.W.readsIn K Q (.type "type") &&
  (match PySem.W.findCls K (.ref Q) (.type "type") "__init__" with
  | some (.val (.builtin i')) => i' == i
  | _ => false) && PySem.W.handedIn (.builtin i)
theorem ownBB_ok {K : PySem.W.Frag} {mg : Str → Option Value} {Q : Addr} {x : Str} {i : String} (g : mg x = some (.ref Q)) (h : ownBB K Q i = true) : OwnB K mg x i Q := by
  unfold ownBB at h
  simp only [Bool.and_eq_true, decide_eq_true_eq] at h
  obtain ⟨⟨⟨⟨h1, h2⟩, h3⟩, h4⟩, h5⟩ := h
  refine ⟨g, h1, h2, h3, ?_, h5⟩
  split at h4
  · rename_i i' e
    rw [e, beq_iff_eq.mp h4]
  · cases h4
end L2.Z

set_option Elab.async false
set_option linter.all false
set_option maxRecDepth 100000
set_option maxHeartbeats 4000000
/-! ZT: try .. except C as n: ..; the caught exception is a value from then on. -/
namespace L2
open PySem PySem.Spec PyProof.Rows Z

theorem exv_ok {P : Program} {w : World} {H : Hp} {h : Heap} {a C dx : Addr} {oe : Obj} {vs : Array Value} (e : h.get? a = some oe) (z : Zc (.ref C) (some dx) oe) (d : oe.data = .fields vs) : ObjOk P w H h a (exv a C dx) :=
  ⟨⟨oe, vs, e, z, d⟩, ⟨_, e⟩, fun h1 h2 x k => by
    obtain ⟨o, v, e', z', d'⟩ := x
    exact ⟨o, v, k _ e', z', d'⟩⟩
theorem exv_at {P : Program} {w : World} {H : Hp} {h : Heap} {a C dx : Addr} (hok : HOk P w H h) (e : H a = some (exv a C dx)) : ∃ (oe : Obj) (vs : Array Value), h.get? a = some oe ∧ Zc (.ref C) (some dx) oe ∧ oe.data = .fields vs := by
  have x : ObjOk P w H h a (.ext fun h => ∃ (oe : Obj) (vs : Array Value), h.get? a = some oe ∧ Zc (.ref C) (some dx) oe ∧ oe.data = .fields vs) := hok a _ e
  exact x.1
section
variable {X : Cx} {pins : List (Addr × Obj)} {σ : St} {H : Hp} {s s' sI : Shared} {B : Heap} {a : Addr}
theorem Inv.suite0 (I : Inv X pins σ H s) : Inv (X.suite a (X.pn ++ pins)) [] σ H s :=
  ⟨I.ok.suite _ _, I.os, I.bare, I.base, I.loc, I.cell, I.free, I.freeC, fun p hp => I.pin p (by rw [List.append_nil] at hp; exact hp), I.hok, I.len⟩
theorem Inv.unsuite0 {pn' : List (Addr × Obj)} (I : Inv (X.suite a (X.pn ++ pins)) pn' σ H s) (ok : X.Ok) : Inv X pins σ H s :=
  ⟨ok, I.os, I.bare, I.base, I.loc, I.cell, I.free, I.freeC, fun p hp => I.pin p (List.mem_append_left _ hp), I.hok, I.len⟩
/-- the exception that landed is known from now on -/
theorem Inv.landedV {C dx : Addr} {oe : Obj} {vs : Array Value} (I : Inv X pins σ H sI) (nb : ∀ b o, sI.heap.get? b = some o → b ∉ frs X.stack → B.get? b = some o) (st : B.StaysIn s'.heap) (up : sI.heap.UpToSlots s'.heap) (os : s'.os = sI.os) (ag : AllBare s'.gens)
    (bn : B.get? a = none) (nf : a ∉ frs X.stack) (na : H a = none) (he : s'.heap.get? a = some oe) (hz : Zc (.ref C) (some dx) oe) (hd : oe.data = .fields vs) : Inv X pins σ (upd H a (exv a C dx)) s' := by
  have nI : sI.heap.get? a = none := by
    cases q : sI.heap.get? a with
    | none => rfl
    | some o => rw [nb a o q nf] at bn; cases bn
  obtain ⟨G, g1, g2⟩ := restrict s'.heap fun b => decide (b ≠ a)
  have ne : ∀ {b : Addr} {o : Obj}, sI.heap.get? b = some o → b ≠ a := fun {b o} q z => by rw [z, nI] at q; cases q
  have gk : ∀ {b : Addr}, b ≠ a → G.get? b = s'.heap.get? b := fun {b} hb => g1 b (decide_eq_true hb)
  have ga : G.get? a = none := g2 a (by simp)
  have J : Inv X pins σ H { s' with heap := G } := I.landed (s' := { s' with heap := G }) nb (fun b o q => by
      have hb : b ≠ a := fun z => by rw [z, bn] at q; cases q
      show G.get? b = some o
      rw [gk hb]; exact st b o q) (fun b o q hnf => by
      obtain ⟨sl, z⟩ := up b o q hnf
      exact ⟨sl, by show G.get? b = _; rw [gk (ne q)]; exact z⟩) os ag
  have K := J.laidN (h' := s'.heap) (t' := s'.toks) (o := exv a C dx) (a := a) (fun b u q => by
      have hb : b ≠ a := fun z => by
        rw [z] at q
        have q' : G.get? a = some u := q
        rw [ga] at q'; cases q'
      rw [← gk hb]; exact q) ga na (exv_ok he hz hd)
  exact K
end

/-- what a clause wishes: its class, the slot of its name, its suite -/
structure Cl where
  c : Value
  i : Nat
  t : TS
def endC (i : Nat) (D : Ends) : Ends := { nx := fun σ H => D.nx (σ.set i none) H, rt := D.rt, bk := fun σ H => D.bk (σ.set i none) H, ct := fun σ H => D.ct (σ.set i none) H }
def wCl (K : PySem.W.Frag) (Wout : WX) (D : Ends) : List Cl → WX
  | [] => Wout
  | l :: r => fun cls d σ H => ∃ b, PySem.W.exmOne K cls l.c = some b ∧ (b = true → ∃ C dx, cls = .ref C ∧ d = some dx ∧ ∀ a, H a = none → l.t (endC l.i D) (σ.set l.i (some (.ref a))) (upd H a (exv a C dx))) ∧ (b = false → wCl K Wout D r cls d σ H)
inductive ClOk (X : Cx) : List ExceptHandler → List Cl → Prop
  | nil : ClOk X [] []
  | cons {x n : Str} {l : Cl} {b₀ : Stmt} {suite : List Stmt} {np pos' : Pos} {hds : List ExceptHandler} {r : List Cl} (hc : Names X x l.c) (hi : X.N[l.i]? = some n) (hn : X.env.kindOf n = some .local)
      (hsu : ∀ (a : Addr) (pn : List (Addr × Obj)), PSs (X.suite a pn) (b₀ :: suite) l.t) (hr : ClOk X hds r) : ClOk X (.ExceptHandler (some (.Name x np)) (some n) (b₀ :: suite) pos' :: hds) (l :: r)
section
variable {X : Cx} {body : List Stmt} {h₀ : ExceptHandler} {hds : List ExceptHandler} {l : List Cl} {pos : Pos} {tb : WX → TS} {Wout : WX}
theorem ps_tryV (hs : X.stack = X.env :: X.outer) (hf : X.env.frame = some X.env.locals) (hN : X.N.Nodup) (tk : Takes X Wout)
    (hb : ∀ (W : WX) (pn : List (Addr × Obj)) (xe : Value → Shared → Prop), Takes (X.tr pn xe) W → PassesOwn (model X.prog X.w) X.A X.env xe → PSs (X.tr pn xe) body (tb W))
    (hh : ClOk X (h₀ :: hds) l) : PS X (.Try body (h₀ :: hds) [] [] pos) (fun D σ H => tb (wCl X.K Wout D l) D σ H) := by
  refine ⟨fun pins s σ H D I h => ?_⟩
  have ok := I.ok
  have hfr : X.A.frames = some (X.env :: X.outer) := by rw [ok.frames, hs]
  refine wpAny_Try_except ?_
  let xe : Value → Shared → Prop := fun e s₁ => wpAny (model X.prog X.w) X.A (noteFrame e X.env) (fun _ s₂ => wpAny (model X.prog X.w) X.A (setFlight e none) (fun _ s₃ => wpAny (model X.prog X.w) X.A (handleBy e X.env (h₀ :: hds)) (SP X pins D) X.xe s₃) X.xe s₂) X.xe s₁
  refine wpAny_mono ((hb (wCl X.K Wout D l) (X.pn ++ pins) xe ?_ PassesOwn.looking).run [] s σ H D (I.toTry _) h) (fun f s1 hsp => ?_) (fun e s1 he => he)
  · rintro u s' ⟨a, B, sI, pins', σ', H', cls, d, rfl, J', nb, up, sky, na, os, ag, w⟩
    have J : Inv X pins σ' H' sI := J'.ofTry ok
    have sky' : Sky B (X.env :: X.outer) a (Zc cls d) X.env.locals s'.heap := by rw [← hs]; exact sky
    show wpAny (model X.prog X.w) X.A (noteFrame (.ref a) X.env) _ _ _
    refine Sky.land Zc.steady hfr hf sky' fun h3 fl3 up3 => ?_
    have J3 : Inv X pins σ' H' { s' with heap := h3 } := J.landed nb fl3.1 (up.trans up3) os ag
    obtain ⟨oe3, vs3, he3, hz3, hd3⟩ := fl3.there
    have nfr : a ∉ frs (X.env :: X.outer) := fun hm => by
      obtain ⟨_, o', e', hnf⟩ := fl3.2.2.1.mem hm
      rw [he3] at e'
      cases e'
      exact hnf _ hd3
    have nst : a ∉ frs X.stack := by rw [hs]; exact nfr
    have nL : a ≠ X.env.locals := fun z => nfr (List.mem_filterMap.mpr ⟨X.env, List.mem_cons_self, by rw [hf, z]⟩)
    have nF : a ∉ X.fs := fun hm => by
      obtain ⟨e, he, q⟩ := List.mem_filterMap.mp hm
      exact nfr (List.mem_filterMap.mpr ⟨e, List.mem_cons_of_mem _ he, q⟩)
    have S3 := J3.suite he3 hd3 na nL nF
    have go : ∀ {hs' : List ExceptHandler} {l' : List Cl}, ClOk X hs' l' → wCl X.K Wout D l' cls d σ' H' → wpAny (model X.prog X.w) X.A (handleBy (.ref a) X.env hs') (SP X pins D) X.xe { s' with heap := h3 } := by
      intro hs' l' hk
      induction hk with
      | nil =>
        intro w
        refine wpAny_handleBy_nil ?_
        obtain ⟨k1, k2, k3, oe, vs, T, oT, ts', he, hz, hd, h1, hr⟩ := id fl3
        unfold PySem.passOn
        refine wpAny_bind (wpAny_field he hd h1 ?_)
        rw [if_neg (show ¬ ((Value.ref T == Value.none) = true) from by simp)]
        have fin : wpAny (model X.prog X.w) X.A (setFlight (.ref a) X.env.frame) (fun _ s4 => wpAny (model X.prog X.w) X.A (throw (.ref a) : Sem Flow) (SP X pins D) X.xe s4) X.xe { s' with heap := h3 } := by
          rw [hf]
          exact HandSPX.setFlight_upZ fl3 fun h4 hh4 up4 => wpAny_throw (tk _ _ ⟨a, B, sI, pins, σ', H', cls, d, rfl, J, nb, (up.trans up3).trans up4, .inr (.inr (by rw [hs]; exact hh4)), na, os, ag, w⟩)
        first
          | exact wpAny_bind (wpAny_pure (wpAny_bind fin))
          | exact wpAny_bind fin
      | @cons x n l b₀ suite np pos' hds2 l2 hc hi hln hsu r ih =>
        intro w
        obtain ⟨b, hb1, hyes, hno⟩ := w
        refine wpAny_handleBy_cons (codeAny_handlers_test ?_) (by intro q; cases q)
        have LT : PySem.W.Looks (model X.prog X.w) h3 (typeOf (.ref a)) cls := fun A Q E s k q => wpAny_typeOf_ref (k _ _ he3) (by rw [hz3.1]; exact q)
        have LM := PySem.W.exm_one (M := model X.prog X.w) (J3.kIn) LT hb1
        have test : ∀ {Q : Value → Shared → Prop} {E : Value → Shared → Prop}, Q l.c { s' with heap := h3 } → wpAny (model X.prog X.w) (X.A.mark (some (.ref a))) (eval (.Name x np) X.env) Q E { s' with heap := h3 } := fun {Q E} q => by
          obtain ⟨hg, hdbg, hm | ⟨hm, hv, hnn⟩⟩ := hc
          · exact ld_glob (X := X.suite a ((a, oe3) :: (X.pn ++ pins))) S3 hg hm q hdbg
          · exact ld_blt (X := X.suite a ((a, oe3) :: (X.pn ++ pins))) S3 hg hm hv q hnn hdbg
        refine test (LM.here ?_)
        cases b with
        | false => exact ih (hno rfl)
        | true =>
          obtain ⟨C, dx, rfl, rfl, hy⟩ := hyes rfl
          refine codeAny_handlers_suite_as ?_
          refine HandSPX.lands_againZ fl3 fun h4 fl4 up4 => ?_
          obtain ⟨oe4, vs4, he4, hz4, hd4⟩ := fl4.there
          have J4 : Inv X pins σ' (upd H' a (exv a C dx)) { s' with heap := h4 } := J.landedV (s' := { s' with heap := h4 }) nb fl4.1 ((up.trans up3).trans up4) os ag fl4.2.1 nst na he4 hz4 hd4
          refine store_ok (X := X.suite a (X.pn ++ pins)) (v := .ref a) J4.suite0 hN hi (.inl hln) rfl (fun s5 S5 => ?_) (.inr hln)
          refine wpAny_mono ((hsu a (X.pn ++ pins)).run [] s5 _ _ _ S5 (hy a na)) (fun f s6 hsp => ?_) (fun _ _ z => False.elim z)
          have fin : ∀ {σ6 : St} {H6 : Hp} {Q : Shared → Prop}, Inv (X.suite a (X.pn ++ pins)) [] σ6 H6 s6 → (∀ s7, Inv X pins (σ6.set l.i none) H6 s7 → Q s7) →
              wpAny (model X.prog X.w) X.A (do bindName X.env n .none; unbindBehindTheSuite X.env n pos') (fun _ s7 => Q s7) X.xe s6 := fun {σ6 H6 Q} S6 hq => gone_ok (S6.unsuite0 ok) hN hi hln hq
          cases f with
          | next => obtain ⟨σ6, H6, S6, q6⟩ := hsp; exact fin S6 fun s7 J7 => ⟨_, _, J7, q6⟩
          | brk => obtain ⟨σ6, H6, S6, q6⟩ := hsp; exact fin S6 fun s7 J7 => ⟨_, _, J7, q6⟩
          | cont => obtain ⟨σ6, H6, S6, q6⟩ := hsp; exact fin S6 fun s7 J7 => ⟨_, _, J7, q6⟩
          | ret u => obtain ⟨v6, σ6, H6, S6, r6, q6⟩ := hsp; exact fin S6 fun s7 J7 => ⟨_, _, _, J7, r6, q6⟩
    exact go hh w
  · cases f with
    | next => obtain ⟨σ', H', J', q⟩ := hsp; exact wpAny_execs_nil ⟨σ', H', J'.ofTry ok, q⟩
    | brk => obtain ⟨σ', H', J', q⟩ := hsp; exact ⟨σ', H', J'.ofTry ok, q⟩
    | cont => obtain ⟨σ', H', J', q⟩ := hsp; exact ⟨σ', H', J'.ofTry ok, q⟩
    | ret u => obtain ⟨v, σ', H', J', r, q⟩ := hsp; exact ⟨v, σ', H', J'.ofTry ok, r, q⟩
end
end L2

namespace L2.Z
open PySem PySem.Spec PyProof.Rows
variable [HasT]
/-- one clause: the class's name, the slot of its name, its suite -/
structure Hd where
  c : Str
  i : Nat
  g : Sm
def runH (sub : Str → Str → Option Bool) (x : Xc) : List Hd → Sm
  | [], σ, S => .ok (.xc x, σ) S
  | h :: r, σ, S => match sub x.cls h.c with
    | some true => (match h.g (σ.set h.i (some (.xc x.cls x.ns x.ds))) S with
      | .ok (.nx, σ') S' => .ok (.nx, σ'.set h.i none) S'
      | .ok (.bk, σ') S' => .ok (.bk, σ'.set h.i none) S'
      | .ok (.ct, σ') S' => .ok (.ct, σ'.set h.i none) S'
      | .ok (.rt d, σ') S' => .ok (.rt d, σ') S'
      | _ => .bad)
    | some false => runH sub x r σ S
    | none => .bad
def sTry (sub : Str → Str → Option Bool) (b : Sm) (hs : List Hd) : Sm := fun σ S => match b σ S with
  | .ok (.xc x, σ') S' => runH sub x hs σ' S'
  | r => r
/-- what is known of own exception classes, one under another -/
def SubOk (K : PySem.W.Frag) (sub : Str → Str → Option Bool) : Prop := ∀ x y b, sub x y = some b → PySem.W.exmOne K (.ref (He.ga K x)) (.ref (He.ga K y)) = some b
inductive HdZ (X : Cx) : List ExceptHandler → List Hd → Prop
  | nil : HdZ X [] []
  | cons {x n : Str} {h : Hd} {b₀ : Stmt} {suite : List Stmt} {np pos' : Pos} {hds : List ExceptHandler} {r : List Hd} (hc : h.c = x) (hg : glB X.env.scope x = true) (hm : X.mg x = some (.ref (He.ga X.K x))) (hi : X.N[h.i]? = some n) (hn : X.env.kindOf n = some .local)
      (hsu : ∀ (a : Addr) (pn : List (Addr × Obj)), QSs (X.suite a pn) (b₀ :: suite) h.g) (hr : HdZ X hds r) : HdZ X (.ExceptHandler (some (.Name x np)) (some n) (b₀ :: suite) pos' :: hds) (h :: r)
def tG (X : Cx) (g : Sm) (W : WX) : TS := fun D σv H => ∃ (m : List Addr) (S : Sto) (σ : Env), RS X.K m S H ∧ RE X.K m H σ σv ∧ PostS X.K X.mg m H (g σ S) D W
section
variable {X : Cx} {body : List Stmt} {h₀ : ExceptHandler} {hds : List ExceptHandler} {hs : List Hd} {pos : Pos} {g : Sm} {sub : Str → Str → Option Bool}
theorem HdZ.ok {hds : List ExceptHandler} {hs : List Hd} (h : HdZ X hds hs) : ClOk X hds (hs.map fun q => ⟨.ref (He.ga X.K q.c), q.i, tG X q.g fun _ _ _ _ => False⟩) := by
  induction h with
  | nil => exact .nil
  | @cons x n h b₀ suite np pos' hds r hc hg hm hi hn hsu hr ih =>
    subst hc
    refine .cons (l := ⟨.ref (He.ga X.K h.c), h.i, tG X h.g fun _ _ _ _ => False⟩) ⟨(glB_ok hg).1, (glB_ok hg).2.1, .inl hm⟩ hi hn (fun a pn => ⟨fun pins s σ H D I z => ?_⟩) ih
    obtain ⟨m, S, σ', rs, re, p⟩ := z
    exact (hsu a pn).run (fun _ _ _ _ => False) takes_none5 m S σ' σ H D rs re p pins s I
theorem qs_try (hN : X.N.Nodup) (so : SubOk X.K sub) (hb : ∀ (pn : List (Addr × Obj)) (xe : Value → Shared → Prop), PassesOwn (model X.prog X.w) X.A X.env xe → QSs (X.tr pn xe) body g) (hh : HdZ X (h₀ :: hds) hs)
    (hst : X.stack = X.env :: X.outer := by rfl) (hf : X.env.frame = some X.env.locals := by rfl) : QS X (.Try body (h₀ :: hds) [] [] pos) (sTry sub g hs) := ⟨fun W tk m S σ σv H Dn rs re p => by
  refine wS.of (ps_tryV (tb := fun W' => tG X g W') hst hf hN tk (fun W' pn xe tk' po => ⟨fun pins s σ H D I z => ?_⟩) hh.ok) ?_
  · obtain ⟨m, S, σ', rs, re, p⟩ := z
    exact (hb pn xe po).run W' tk' m S σ' σ H D rs re p pins s I
  refine ⟨m, S, σ, rs, re, ?_⟩
  unfold sTry at p
  cases eb : g σ S with
  | bad => rw [eb] at p; exact p
  | exc _ _ => rw [eb] at p; exact p
  | ok q S1 =>
    obtain ⟨fl, σ1⟩ := q
    rw [eb] at p
    cases fl with
    | nx => exact p
    | bk => exact p
    | ct => exact p
    | rt d => exact p
    | xc x =>
      dsimp only at p
      intro m' H' σv' c d x' rs' re' rx
      have p' := PostS.ext p x'
      clear p eb hh
      induction hs with
      | nil => exact p' m' H' σv' c d (.refl _ _) rs' re' rx
      | cons h r ih =>
        obtain ⟨dd, vs, hm, rfl, rfl, hd, rds⟩ := rx
        simp only [runH] at p'
        cases es : sub x.cls h.c with
        | none => simp only [es] at p'; exact p'.elim
        | some b =>
          refine ⟨b, so _ _ _ es, fun e => ?_, fun e => ?_⟩
          · subst e
            simp only [es] at p'
            refine ⟨_, dd, rfl, rfl, fun a na => ?_⟩
            have xx : Ext m' H' m' (upd H' a (exv a (He.ga X.K x.cls) dd)) := .new na
            have nd : dd ≠ a := ne_of_none hd na
            refine ⟨m', S1, σ1.set h.i (some (.xc x.cls x.ns x.ds)), rs'.new na, (re'.mono xx).set ?_ h.i, ?_⟩
            · simp only [RD]
              exact ⟨a, dd, vs, rfl, upd_same, by rw [upd_ne nd]; exact hd, RDs.mono xx _ _ rds⟩
            have p2 := p'
            cases eg : h.g (σ1.set h.i (some (.xc x.cls x.ns x.ds))) S1 with
            | bad => rw [eg] at p2; exact p2
            | exc _ _ => rw [eg] at p2; exact p2
            | ok q S2 =>
              obtain ⟨fl, σ2⟩ := q
              rw [eg] at p2
              cases fl with
              | nx => exact fun m2 H2 σv2 y rs2 re2 => p2 m2 H2 _ (xx.trans y) rs2 (re2.unset h.i)
              | bk => exact fun m2 H2 σv2 y rs2 re2 => p2 m2 H2 _ (xx.trans y) rs2 (re2.unset h.i)
              | ct => exact fun m2 H2 σv2 y rs2 re2 => p2 m2 H2 _ (xx.trans y) rs2 (re2.unset h.i)
              | rt d => exact fun m2 H2 v y rs2 rd => p2 m2 H2 v (xx.trans y) rs2 rd
              | xc z => exact p2.elim
          · subst e
            simp only [es] at p'
            exact ih p'⟩
/-! ### a caught exception's fields -/
theorem pe_xv {e : Expr} {te : TE} {n : Str} (he : PE X e te) (hb : attributeBase e n X.env (eval e X.env) = eval e X.env := by rfl) :
    PE X (.Attribute e n pos) (fun σ H Q => te σ H fun x H1 => ∃ a C dx fs v, x = .ref a ∧ H1 a = some (exv a C dx) ∧ H1 dx = some (.xd fs) ∧ XfC X.K C ∧ PySem.W.findIn X.K (.ref C) n = some none ∧ fs.lookup n = some v ∧ Q v H1) := by
  refine ⟨fun pins s σ H Q I h => attr_of hb (thn (he.run pins s σ H _ I h) fun u s1 hh => ?_)⟩
  obtain ⟨x, H1, I1, rx, a, C, dx, fs, v, ex, ea, ed, T, hno, l, q⟩ := hh
  subst ex
  obtain ⟨oe, vs, ha, hz, hd⟩ := exv_at I1.hok ea
  obtain ⟨mA, hns, hr⟩ := (show ObjOk X.prog X.w H1 s1.heap dx (.xd fs) from I1.hok dx _ ed)
  obtain ⟨od, ho, hl⟩ := lookIn_ns hns
  obtain ⟨u', hu, ru⟩ := RelO.some_of (v := v) (o := mA n) (by rw [← l]; exact hr n)
  have eu : u = Value.ref a := rx
  subst eu
  have J : PySem.W.InstAt s1.heap a oe C (some od) := ⟨ha, hz.1, by unfold PySem.W.notCls; rw [hd] <;> rfl, by rw [hz.2]; exact ho⟩
  exact HandSPX.exc_get I1.kIn J T.ga T.gg T.exC (PySem.W.findObj_own T.hdC hno rfl (by rw [hl, hu])) (handed_of ru) ⟨v, H1, I1.tok _, ru, q⟩
def fFld (cs : List Str) (n : Str) : F1 := fun d S => match d with
  | .xc c ns ds => (match cs.contains c with
    | true => (match (ns.zip ds).lookup n with
      | some d => some (d, S)
      | none => none)
    | false => none)
  | _ => none
/-- the classes cs: instances' field n is read from the own dict -/
def FldOk (K : PySem.W.Frag) (cs : List Str) (n : Str) : Prop := ∀ c ∈ cs, XfC K (He.ga K c) ∧ PySem.W.findIn K (.ref (He.ga K c)) n = some none
theorem RDs.look {K : PySem.W.Frag} {m : List Addr} {H : Hp} {n : Str} {d : D} : ∀ {ns : List Str} {ds : List D} {vs : List V}, RDs K m H ds vs → (ns.zip ds).lookup n = some d → ∃ v, (ns.zip vs).lookup n = some v ∧ RD K m H d v
  | [], ds, vs, r, e => by simp at e
  | x :: ns, [], vs, r, e => by simp at e
  | x :: ns, y :: ds, vs, r, e => by
    simp only [RDs] at r
    obtain ⟨v, r', rfl, rd, rr⟩ := r
    simp only [List.zip_cons_cons, List.lookup] at e ⊢
    cases h : (n == x) with
    | true => rw [h] at e; cases e; exact ⟨v, rfl, rd⟩
    | false => rw [h] at e; exact RDs.look rr e
theorem q_xf {e : Expr} {f : Env → M D} {cs : List Str} {n : Str} (fo : FldOk X.K cs n) (ha : QE X e f) (hb : attributeBase e n X.env (eval e X.env) = eval e X.env := by rfl) : QE X (.Attribute e n pos) (e1 (fFld cs n) f) := ⟨fun W tk m S σ σv H P rs re q => by
  refine wE.of (pe_xv (pw e) hb) ?_
  refine (one (h := fFld cs n) ha tk rs re q).mono ?_
  rintro v H1 ⟨m1, S1, d1, d, S', rs1, r1, e', fin⟩
  unfold fFld at e'
  split at e'
  · rename_i c ns ds
    split at e'
    · rename_i hc
      split at e'
      · rename_i d0 el
        cases e'
        simp only [RD] at r1
        obtain ⟨a, dx, vs, rfl, h1, h2, r⟩ := r1
        obtain ⟨T, hno⟩ := fo c (by simpa using hc)
        obtain ⟨v', lv, rv⟩ := RDs.look r el
        exact ⟨a, _, dx, _, v', rfl, h1, h2, T, hno, lv, fin m1 H1 v' (.refl _ _) rs1 rv⟩
      · cases e'
    · cases e'
  · cases e'⟩
end
end L2.Z

set_option Elab.async false
set_option linter.all false
set_option maxRecDepth 100000
set_option maxHeartbeats 4000000
/-! ZL: a lambda without parameters handed to a def that calls it in a try. -/
namespace L2.Z
open PySem PySem.Spec PyProof.Rows LamX
section
variable {X : Cx} {pins : List (Addr × Obj)} {σ : L2.St} {H : Hp} {s : Shared}
/-- a() in the def that got the lambda, what it lets out taken with the names as they stand -/
theorem pe_actW {Eg : XK} {Ng : List Str} {qg : Str} {sg : Scope} {g f c' : Addr} {cdg pm ctv : Value} {params : Arguments} {body : Expr} {scope : Scope} {k i : Nat} {a : Str} {pn : List (Addr × Obj)} {xe : Value → Shared → Prop} {W : WX} {tb : XK → TE} {p1 p2 : Pos}
    (I : Inv X pins σ H s) (L : LamS X.env.scope scope) (hf : s.heap.get? f = some (PySem.W.kla_obj "<lambda>" (X.env.qual ++ "<lambda>") params body scope (cloFrom X.env.cells scope.names []) pm c' ctv)) (hfn : H f = none) (hfr : f ∉ frs X.stack)
    (hbind : bindArgs (PySem.W.kla_fn "<lambda>" (X.env.qual ++ "<lambda>") params body scope (cloFrom X.env.cells scope.names []) pm (.ref c') ctv) ⟨[], []⟩ = pure [])
    (tk : Takes ((cxOf (L2.CX X.prog X.w) X.prog X.w X.K X.mg X.base Ng qg sg g cdg X.A X.stack s H Eg).tr pn xe) W) (hr : Room (k + 1) (X.A.deeper (envOfC qg sg s.heap.objs.size g cdg)))
    (hbody : ∀ (E : XK) (A : Around) (outer : List PySem.Env) (s : Shared) (H : Hp), Room k (A.deeper (lamEnv X scope s.heap.objs.size f c')) → PE (lamCx X A outer s H E scope f c') body (tb E))
    (hN : Ng[i]? = some a) (hv : Vis sg a) (hd : (a == ("__debug__" : Str)) = false) (hcd : (a == ("__classdict__" : Str)) = false) :
    PE ((cxOf (L2.CX X.prog X.w) X.prog X.w X.K X.mg X.base Ng qg sg g cdg X.A X.stack s H Eg).tr pn xe) (.Call (.Name a p1) [] [] p2)
      (fun σZ HZ Q => σZ[i]? = some (some (.ref f)) ∧ HZ c' = some (CodeO c' (X.env.qual ++ "<lambda>")) ∧ tb (fun cls d H' => W cls d σZ H') σ HZ Q) := by
  refine ⟨fun pinsZ sZ σZ HZ Q IZ h => ?_⟩
  obtain ⟨hs, hc, ht⟩ := h
  refine wpAny_Call_Name_kw (thn ((pe_var (pos := p1) (i := i) hN hv hd hcd).run pinsZ sZ σZ HZ (fun v H1 => v = .ref f ∧ H1 = HZ) IZ ⟨.ref f, hs, rfl, rfl⟩) ?_)
  rintro u s1 ⟨v, H1, I1, r1, ev, eH⟩
  subst ev eH
  have eu : u = Value.ref f := r1
  subst eu
  have of1 := I1.base.keep f _ hf hfn hfr (fun z => nomatch (show f ∈ ([] : List Addr) from z))
  refine PySem.W.callWith_F0 ⟨_, _, _, _, of1⟩ ?_
  obtain ⟨⟨oc, vs, t, hoc, hdc, hvc⟩, _, _⟩ := I1.hok c' _ hc
  have rc : codeAny (model X.prog X.w) (X.A.deeper (envOfC qg sg s.heap.objs.size g cdg)) (.call (.ref f) ⟨[], []⟩) (CR (L2.CX X.prog X.w) (envOfC qg sg s.heap.objs.size g cdg :: X.stack) X.prog X.w H1 s1 Q (fun cls d H' => W cls d σZ H')) s1 := by
    refine PySem.W.kla_callFunE hr.depth of1 rfl L.co L.gen rfl ⟨c', oc, vs, t, rfl, hoc, hdc, hvc⟩ ?_
    rw [hbind]
    refine wpAny_pure (wpAny_newFunctionEnv (fun y hy => (L.own y hy).2) (fun y hy => absurd hy (by simp)) (fun h₁ hns hsb => ⟨I1.nolimit.fresh _ hsb, ?_⟩) L.kind)
    show codeAny _ _ (.expr body (lamEnv X scope s1.heap.objs.size f c')) _ _
    have kp : ∀ b o, s1.heap.get? b = some o → h₁.get? b = some o := fun b o e => hsb.extBut b o (Nat.ne_of_lt (Heap.lt_size e)) (Heap.get?_push_of_some _ e)
    have J : Inv (lamCx X (X.A.deeper (envOfC qg sg s.heap.objs.size g cdg)) (envOfC qg sg s.heap.objs.size g cdg :: X.stack) s1 H1 (fun cls d H' => W cls d σZ H') scope f c') [] σ H1 { s1 with heap := h₁, toks := s1.toks + ([] : List (Str × Value)).length } :=
      lam_start2 I L I1.env0 hr.hd I1.base hns kp
    refine PySem.W.kla_codeExpr (wpAny_mono ((hbody _ _ _ s1 H1 (hr.deeper _)).run [] _ _ H1 Q J ht) (fun v s' hq => ?_) fun e s' hq => hq)
    obtain ⟨w', H', J', rv, q⟩ := hq
    exact ⟨w', H', J'.os, J'.bare, J'.base, J'.hok, rv, q⟩
  refine wpAny_call (codeAny_mono rc fun r s' hq => ?_)
  · cases r with
    | error e => exact tk e s' (XE.of_call I1 (fun _ _ _ h => h) hq)
    | ok fl =>
      cases fl with
      | ret u => exact I1.after hq
      | next => exact False.elim hq
      | brk => exact False.elim hq
      | cont => exact False.elim hq
/-- the def that calls what it got -/
def GivesW (X : Cx) (Ng : List Str) (x : Str) (sg : Scope) (g : Addr) (cdg : Value) (bg : List Stmt) (a : Str) (q : Str) (k : Nat) (TT : (XK → Hp → VK → Prop) → Hp → VK → XK → Prop) : Prop :=
  ∀ (f c' : Addr) (s : Shared) (H : Hp) (Q : VK) (E : XK) (tl : XK → Hp → VK → Prop), Room (k + 1) (X.A.deeper (envOfC x sg s.heap.objs.size g cdg)) →
    (∀ (W : WX) (pn : List (Addr × Obj)) (xe : Value → Shared → Prop) (p1 p2 : Pos), Takes ((cxOf (L2.CX X.prog X.w) X.prog X.w X.K X.mg X.base Ng x sg g cdg X.A X.stack s H E).tr pn xe) W →
      PE ((cxOf (L2.CX X.prog X.w) X.prog X.w X.K X.mg X.base Ng x sg g cdg X.A X.stack s H E).tr pn xe) (.Call (.Name a p1) [] [] p2) (fun σZ HZ Q => σZ[0]? = some (some (.ref f)) ∧ HZ c' = some (CodeO c' q) ∧ tl (fun cls d H' => W cls d σZ H') HZ Q)) →
    H c' = some (CodeO c' q) → TT tl H Q E →
    ∃ t, PSs (cxOf (L2.CX X.prog X.w) X.prog X.w X.K X.mg X.base Ng x sg g cdg X.A X.stack s H E) bg t ∧ t { nx := fun _ H' => Q .non H', rt := Q } (L2.start Ng [.ref f]) H
def tLamW (T : List (Addr × Str)) (TT : (XK → Hp → VK → Prop) → Hp → VK → XK → Prop) (t : XK → TE) (E : L2.St → XK) : TE := fun σ H Q => Tabs T H ∧ ∀ H1, ExtN H H1 → Tabs T H1 → TT (fun E H' Q' => t E σ H' Q') H1 Q (E σ)
end
section
variable {X : Cx}
theorem pe_lamW {T : List (Addr × Str)} {TT : (XK → Hp → VK → Prop) → Hp → VK → XK → Prop} {x a : Str} {g c P : Addr} {k : Nat} {pg : Arguments} {bg : List Stmt} {sg : Scope} {dV kV doc pm cdv ct oc : Value} {an od : Option Addr} {osl : Array (Option Value)} {Ng : List Str}
    {params : Arguments} {body : Expr} {scope : Scope} {t : XK → TE} {E : L2.St → XK} {p lpos pos : Pos} (hg : Gl X x) (hm : X.mg x = some (.ref g)) (hk : PySem.W.keepIn X.K (.ref g) = true)
    (lk : X.K.lookup g = some ⟨oc, od, .func (PySem.W.fnOf x x pg bg sg dV kV doc pm an cdv ct), osl⟩) (hcg : PySem.W.codeIn X.K cdv x = true) (hb : L2.Binds X.K (PySem.W.fnOf x x pg bg sg dV kV doc pm an cdv ct) [a] []) (Sg : FnScope Ng [a] sg) (hNg : Ng[0]? = some a) (hva : Vis sg a)
    (hG : GivesW X Ng x sg g cdv bg a (X.env.qual ++ "<lambda>") k TT) (hx : ∀ σ, PassesAt (L2.CX X.prog X.w) X σ (E σ))
    (TB : TabB X.base X.mg c P) (hcode : X.env.code = .ref c) (hmT : (P, X.env.qual ++ "<lambda>") ∈ T) (hu : ∀ p ∈ T, p.1 = P → p.2 = X.env.qual ++ "<lambda>") (hr : Room (k + 2) X.A) (L : LamS X.env.scope scope) (hdef : defaultsOf params X.env = ([], []))
    (hbind : ∀ (q : Str) (cl : List (Str × Addr)) (pm cv ctv : Value), bindArgs (PySem.W.kla_fn "<lambda>" q params body scope cl pm cv ctv) ⟨[], []⟩ = pure [])
    (hbody : ∀ (E : XK) (A : Around) (outer : List PySem.Env) (s : Shared) (H : Hp) (f c' : Addr), Room k (A.deeper (lamEnv X scope s.heap.objs.size f c')) → PE (lamCx X A outer s H E scope f c') body (t E))
    (hdb : (x == ("__debug__" : Str)) = false) (hd : (a == ("__debug__" : Str)) = false) (hcd : (a == ("__classdict__" : Str)) = false) :
    PE X (.Call (.Name x p) [.Lambda params body scope lpos] [] pos) (tLamW T TT t E) := by
  refine ⟨fun pins s σ H Q I h => ?_⟩
  obtain ⟨hT, h⟩ := h
  refine wpAny_Call_Name_kw (ld_glob I hg hm ?_ hdb)
  refine PySem.W.callWith_K (h₀ := X.base) I.ok.mod.kin hk ?_ (by rfl) (by rfl)
  show wpAny _ _ (spliced ((false, eval (.Lambda params body scope lpos) X.env) :: backTo pos (starEach [] X.env))) _ _ s
  refine Calls.spliced_cons (lam_make2 I TB hcode hmT hu hT hdef (L.has I.ok) fun f c' pm' ctv H1 s' I1 eN T1 hf hfn hfr hco => ?_)
  refine Calls.spliced_nil ⟨I1.kIn, ?_⟩
  refine wpAny_call (codeAny_mono (R := CR (L2.CX X.prog X.w) X.stack X.prog X.w H1 s' Q (E σ)) ?_ fun r s2 hq => ?_)
  · exact run_ofS (N := Ng) (ps := [a]) (us := [.ref f]) (vs := [.ref f]) lk hcg Sg hr I1.env0 (hb s' [.ref f] I1.kIn rfl) (.cons rfl .nil) rfl fun hr' =>
      hG f c' s' H1 Q (E σ) (fun E H' Q' => t E σ H' Q') hr' (fun W pn xe p1 p2 tk => pe_actW (i := 0) I1 L hf hfn hfr (hbind _ _ _ _ _) tk hr' (fun E A outer s H hr2 => hbody E A outer s H f c' hr2) hNg hva hd hcd) hco (h H1 eN T1)
  · cases r with
    | error e => exact hx σ pins H1 s' e s2 I1 hq
    | ok fl =>
      cases fl with
      | ret u => exact I1.after hq
      | next => exact False.elim hq
      | brk => exact False.elim hq
      | cont => exact False.elim hq
end
end L2.Z
namespace L2.Z
open PySem PySem.Spec PyProof.Rows LamX
variable [HasT]
open Classical in
/-- what was handed over, called -/
noncomputable def eDeed (d0 : D) (dd : M D) : Env → M D := fun σ => if σ[0]? = some (some d0) then dd else bad
theorem eDeed_ok {d0 : D} {dd : M D} {σ : Env} {S : Sto} (h : eDeed d0 dd σ S ≠ .bad) : σ[0]? = some (some d0) ∧ eDeed d0 dd σ S = dd S := by
  unfold eDeed at h ⊢
  by_cases e : σ[0]? = some (some d0)
  · rw [if_pos e]; exact ⟨e, rfl⟩
  · rw [if_neg e] at h; exact absurd rfl h
abbrev LBody := (Env → M D) → Sm
def endL (r : Res (Fl × Env)) : Res D := match r with
  | .ok (.nx, _) S' => .ok .non S'
  | .ok (.rt d, _) S' => .ok d S'
  | .ok (.xc x, _) S' => .exc x S'
  | _ => .bad
def runL (len : Nat) (b : LBody) (dd : M D) : M D := fun S => endL (b (fun _ => dd) (some .non :: List.replicate (len - 1) none) S)
/-- it makes no difference where the lambda lies -/
def Uni (len : Nat) (b : LBody) : Prop := ∀ d0 dd S, endL (b (eDeed d0 dd) (some d0 :: List.replicate (len - 1) none) S) = runL len b dd S
def eLam (len : Nat) (b : LBody) (f : Env → M D) : Env → M D := fun σ => runL len b (f σ)
/-- the tables' place and name -/
structure KnT (base : Heap) (mg : Str → Option Value) (q : Str) (c : Addr) : Prop where
  ex : ∃ P, TabB base mg c P ∧ (P, q) ∈ HasT.T ∧ ∀ p ∈ HasT.T, p.1 = P → p.2 = q
theorem HLe.ofN {H H' : Hp} (e : ExtN H H') : HLe H H' where
  tups := fun b xs h => e b (.tup xs) h (by intro ps z; cases z)
  frzs := fun b o u h => e b (.frz o u) h (by intro ps z; cases z)
  exts := fun b φ h => e b (.ext φ) h (by intro ps z; cases z)
  xds := fun b fs h => e b (.xd fs) h (by intro ps z; cases z)
theorem Ext.ofN {m : List Addr} {H H' : Hp} (e : ExtN H H') : Ext m H m H' := ⟨List.prefix_refl _, .ofN e, fun b xs h n => ⟨e b (.lst xs) h (by intro ps z; cases z), n⟩⟩
theorem RO.notbl {K : PySem.W.Frag} {m : List Addr} {H : Hp} {o : O} {u : HO} (r : RO K m H o (Option.some u)) : ∀ ps, u ≠ .tbl ps := fun ps z => r.plain u rfl (.inl ⟨ps, z⟩)
theorem RS.ofN {K : PySem.W.Frag} {m : List Addr} {S : Sto} {H H' : Hp} (r : RS K m S H) (e : ExtN H H') (t : Tabs HasT.T H') : RS K m S H' :=
  ⟨t, r.nd, r.len, fun i a h => by
    obtain ⟨o, g, q⟩ := r.at_ i a h
    obtain ⟨u, hu⟩ := q.some
    rw [hu] at q
    have z := e a u hu q.notbl
    refine ⟨o, g, ?_⟩
    rw [z]
    exact q.mono (.ofN e)⟩
def lamP (X : Cx) (m : List Addr) (S : Sto) (len : Nat) (b : LBody) (dd : M D) (P : D → Sto → List Addr → Hp → Prop) (tl : XK → Hp → VK → Prop) (H : Hp) (Q : VK) (E : XK) : Prop :=
  RS X.K m S H ∧ PostG X.K X.mg m H (runL len b dd S) P E ∧ (∀ v H', GV X.K m H P v H' → Q v H') ∧
    ∀ (E' : XK) (m' : List Addr) (S' : Sto) (H' : Hp) (P' : D → Sto → List Addr → Hp → Prop) (Q' : VK), Ext m H m' H' → RS X.K m' S' H' → PostG X.K X.mg m' H' (dd S') P' E' → (∀ v H'', GV X.K m' H' P' v H'' → Q' v H'') → tl E' H' Q'
section
variable {X : Cx} {x a : Str} {k : Nat} {len : Nat} {b : LBody} {params : Arguments} {body : Expr} {scope : Scope} {f : Env → M D} {p lpos pos : Pos}
theorem q_lam {gA : Addr} {fd : FuncData} {pg : Arguments} {bg : List Stmt} {sg : Scope} {Ng : List Str} {cA : Addr} (un : Uni len b) (F : FunD X.K x x pg bg sg [] [] gA fd) (hb : Binds X.K fd [a] []) (hm : X.mg x = some (.ref gA)) (Sg : FnScope Ng [a] sg) (nmg : NmOk Ng) (hl : Ng.length = len) (hva : visB sg a = true)
    (hq : ∀ (cdv : Value) (s : Shared) (H : Hp) (E : XK) (d0 : D) (dd : M D), Room (k + 1) (X.A.deeper (envOfC x sg s.heap.objs.size gA cdv)) →
      (∀ (pn : List (Addr × Obj)) (xe : Value → Shared → Prop) (p1 p2 : Pos), QE ((cxOf (L2.CX X.prog X.w) X.prog X.w X.K X.mg X.base Ng x sg gA cdv X.A X.stack s H E).tr pn xe) (.Call (.Name a p1) [] [] p2) (eDeed d0 dd)) →
      QSs (cxOf (L2.CX X.prog X.w) X.prog X.w X.K X.mg X.base Ng x sg gA cdv X.A X.stack s H E) bg (b (eDeed d0 dd)))
    (kt : KnT X.base X.mg (X.env.qual ++ "<lambda>") cA) (hcode : X.env.code = .ref cA) (hr : Room (k + 2) X.A) (L : lamSB X.env.scope scope = true) (hdef : defaultsOf params X.env = ([], []))
    (hbind : ∀ (q : Str) (cl : List (Str × Addr)) (pm cv ctv : Value), bindArgs (PySem.W.kla_fn "<lambda>" q params body scope cl pm cv ctv) ⟨[], []⟩ = pure [])
    (hbody : ∀ (A : Around) (outer : List PySem.Env) (s : Shared) (H : Hp) (E : XK) (fA c' : Addr), Room k (A.deeper (lamEnv X scope s.heap.objs.size fA c')) → QE (lamCx X A outer s H E scope fA c') body f)
    (hg : glB X.env.scope x = true := by kernel_rfl) : QE X (.Call (.Name x p) [.Lambda params body scope lpos] [] pos) (eLam len b f) := ⟨fun W tk m S σ σv H P rs re q => by
  obtain ⟨Pt, TB, hmT, hu⟩ := kt.ex
  obtain ⟨oc, od, dV, kV, doc, pm, an, cdv, ct, osl, rfl, lk, hcd, _, _⟩ := F.ex
  have hN0 : Ng[0]? = some a := by
    have z := Sg.pre
    cases Ng with
    | nil => cases z
    | cons y r => simp at z; simp [z]
  have na := nmg a (List.mem_of_getElem? hN0)
  refine wE.of (pe_lamW (T := HasT.T) (k := k) (Ng := Ng) (E := fun σ c d H' => W c d σ H') (TT := fun tl H Q E => ∃ (m : List Addr) (S : Sto) (dd : M D) (P : D → Sto → List Addr → Hp → Prop), lamP X m S len b dd P tl H Q E)
    (t := fun E σv H Q => ∃ (m : List Addr) (S : Sto) (σ : Env) (P : D → Sto → List Addr → Hp → Prop), RS X.K m S H ∧ RE X.K m H σ σv ∧ PostG X.K X.mg m H (f σ S) P E ∧ ∀ v H', GV X.K m H P v H' → Q v H')
    (glB_ok hg).1 hm F.kp lk hcd hb Sg hN0 (visB_ok hva) ?_ (fun σ => passAt tk σ) TB hcode hmT hu hr (lamS_by L) hdef hbind ?_ (glB_ok hg).2.1 na.1 na.2) ?_
  · intro fA c' s H Q E tl hr' act hco ⟨m, S, dd, P, rs, p, fin, htl⟩
    have un' := un (D.lam fA c' (X.env.qual ++ "<lambda>") m H) dd S
    rw [← un'] at p
    refine ⟨_, pssw _, ?_⟩
    refine (hq cdv s H E (D.lam fA c' (X.env.qual ++ "<lambda>") m H) dd hr' (fun pn xe p1 p2 => ⟨fun W' tk' m' S' σ' σv' H' P' rs' re' q' => ?_⟩)).run (fun c d _ H' => E c d H') (takes_of rfl rfl rfl rfl) m S (some (D.lam fA c' (X.env.qual ++ "<lambda>") m H) :: List.replicate (len - 1) none) _ H _ rs ?_ ?_
    · have nb : eDeed (D.lam fA c' (X.env.qual ++ "<lambda>") m H) dd σ' S' ≠ .bad := fun z => by rw [z] at q'; exact q'
      obtain ⟨e1, e2⟩ := eDeed_ok nb
      rw [e2] at q'
      obtain ⟨v, ev, rv⟩ := re'.at_ 0 _ e1
      simp only [RD] at rv
      obtain ⟨rfl, hc, xt⟩ := rv
      exact wE.of (act W' pn xe p1 p2 tk') ⟨ev, hc, htl _ m' S' H' P' _ xt rs' q' fun _ _ z => z⟩
    · have e : L2.start Ng [V.ref fA] = [V.ref fA].map some ++ List.replicate (len - 1) none := by unfold L2.start; rw [hl]; rfl
      rw [e]
      exact RE.start (ds := [D.lam fA c' (X.env.qual ++ "<lambda>") m H]) (by simp only [RDs, RD]; exact ⟨_, [], rfl, ⟨rfl, hco, .refl _ _⟩, rfl⟩) (len - 1)
    · revert p
      cases b (eDeed (D.lam fA c' (X.env.qual ++ "<lambda>") m H) dd) (some (D.lam fA c' (X.env.qual ++ "<lambda>") m H) :: List.replicate (len - 1) none) S with
      | bad => exact fun p => p
      | exc _ _ => exact fun p => p
      | ok r S1 =>
        obtain ⟨fl, σ1⟩ := r
        cases fl with
        | nx => exact fun p m1 H1 σv1 x1 rs1 re1 => fin _ _ ⟨.non, S1, m1, rs1, by simp only [RD], x1, p m1 H1 x1 rs1⟩
        | bk => exact fun p => False.elim p
        | ct => exact fun p => False.elim p
        | rt d => exact fun p m1 H1 v x1 rs1 rv => fin _ _ ⟨d, S1, m1, rs1, rv, x1, p m1 H1 x1 rs1⟩
        | xc x => exact fun p m1 H1 σv1 c d x1 rs1 re1 rx => p m1 H1 c d x1 rs1 rx
  · intro E A outer s H fA c' hr'
    refine ⟨fun pins s' σ' H' Q I ⟨m, S, σ1, P, rs, re, p, fin⟩ => ?_⟩
    have z := (hbody A outer s H E fA c' hr').run (fun c d _ H' => E c d H') (takes_of rfl rfl rfl rfl) m S σ1 σ' H' P rs re p
    exact wE.mono z fin pins s' I
  · refine ⟨rs.tb, fun H1 eN T1 => ⟨m, S, f σ, P, rs.ofN eN T1, PostG.ext q (.ofN eN), fun v H' z => ?_, fun E' m' S' H' P' Q' x' rs' p' fin' => ⟨m', S', σ, P', rs', re.mono (Ext.trans (.ofN eN) x'), p', fin'⟩⟩⟩
    obtain ⟨d, S', m', rs', r, x', pp⟩ := z
    exact ⟨d, S', m', rs', r, Ext.trans (.ofN eN) x', pp⟩⟩
end
end L2.Z

set_option Elab.async false
set_option linter.all false
set_option maxRecDepth 100000
set_option maxHeartbeats 4000000
/-! ZE: words for the end. -/
namespace L2.Z
open PySem PySem.Spec PyProof.Rows
variable [HasT]
/-! ### a lambda's place makes no difference -/
/-- g with d0 in the first slot does what g' does with None there -/
def Rg (d0 : D) (g g' : Sm) : Prop := ∀ σ S, (∃ fl t S', g' (some .non :: σ) S = .ok (fl, some .non :: t) S' ∧ g (some d0 :: σ) S = .ok (fl, some d0 :: t) S') ∨ (g' (some .non :: σ) S = .bad ∧ g (some d0 :: σ) S = .bad)
def Re {α : Type} (d0 : D) (f f' : Env → M α) : Prop := ∀ σ S, f (some d0 :: σ) S = f' (some .non :: σ) S
theorem rg_sE {α : Type} {d0 : D} {f f' : Env → M α} {k k' : Env → α → M (Fl × Env)} (hf : Re d0 f f') (hk : ∀ a, Rg d0 (fun σ => k σ a) (fun σ => k' σ a)) : Rg d0 (fun σ => sE (f σ) σ (k σ)) (fun σ => sE (f' σ) σ (k' σ)) := fun σ S => by
  dsimp only [sE]
  rw [hf σ S]
  cases f' (some .non :: σ) S with
  | ok a S1 => exact hk a σ S1
  | exc x S1 => exact .inl ⟨_, _, _, rfl, rfl⟩
  | bad => exact .inr ⟨rfl, rfl⟩
theorem rg_set {d0 : D} {f f' : Env → M D} (i : Nat) (hf : Re d0 f f') : Rg d0 (sSet (i + 1) f) (sSet (i + 1) f') := rg_sE hf fun a σ S => .inl ⟨_, _, _, rfl, rfl⟩
theorem rg_ret {d0 : D} {f f' : Env → M D} (hf : Re d0 f f') : Rg d0 (sRet f) (sRet f') := rg_sE hf fun a σ S => .inl ⟨_, _, _, rfl, rfl⟩
theorem rg_drop {d0 : D} {f f' : Env → M D} (hf : Re d0 f f') : Rg d0 (sDrop f) (sDrop f') := rg_sE hf fun a σ S => .inl ⟨_, _, _, rfl, rfl⟩
theorem rg_nil {d0 : D} : Rg d0 sNil sNil := fun σ S => .inl ⟨_, _, _, rfl, rfl⟩
theorem rg_if {d0 : D} {t t' : Env → M Bool} {a b a' b' : Sm} (ht : Re d0 t t') (ha : Rg d0 a a') (hb : Rg d0 b b') : Rg d0 (sIf t a b) (sIf t' a' b') := by
  refine rg_sE ht fun c => ?_
  cases c with
  | true => exact ha
  | false => exact hb
theorem rg_seq {d0 : D} {a b a' b' : Sm} (ha : Rg d0 a a') (hb : Rg d0 b b') : Rg d0 (sSeq a b) (sSeq a' b') := fun σ S => by
  unfold sSeq
  rcases ha σ S with ⟨fl, t, S', e1, e2⟩ | ⟨e1, e2⟩
  · rw [e1, e2]
    cases fl with
    | nx => exact hb t S'
    | bk => exact .inl ⟨_, _, _, rfl, rfl⟩
    | ct => exact .inl ⟨_, _, _, rfl, rfl⟩
    | rt d => exact .inl ⟨_, _, _, rfl, rfl⟩
    | xc x => exact .inl ⟨_, _, _, rfl, rfl⟩
  · rw [e1, e2]; exact .inr ⟨rfl, rfl⟩
inductive Rhs (d0 : D) : List Hd → List Hd → Prop
  | nil : Rhs d0 [] []
  | cons {c : Str} {i : Nat} {g g' : Sm} {r r' : List Hd} (h : Rg d0 g g') (hr : Rhs d0 r r') : Rhs d0 (⟨c, i + 1, g⟩ :: r) (⟨c, i + 1, g'⟩ :: r')
theorem rg_try {d0 : D} {sub : Str → Str → Option Bool} {b b' : Sm} {hs hs' : List Hd} (hb : Rg d0 b b') (hh : Rhs d0 hs hs') : Rg d0 (sTry sub b hs) (sTry sub b' hs') := fun σ S => by
  unfold sTry
  rcases hb σ S with ⟨fl, t, S', e1, e2⟩ | ⟨e1, e2⟩
  · rw [e1, e2]
    cases fl with
    | nx => exact .inl ⟨_, _, _, rfl, rfl⟩
    | bk => exact .inl ⟨_, _, _, rfl, rfl⟩
    | ct => exact .inl ⟨_, _, _, rfl, rfl⟩
    | rt d => exact .inl ⟨_, _, _, rfl, rfl⟩
    | xc x =>
      show (∃ fl t1 S1, runH sub x hs' (some .non :: t) S' = .ok (fl, some .non :: t1) S1 ∧ runH sub x hs (some d0 :: t) S' = .ok (fl, some d0 :: t1) S1) ∨ (runH sub x hs' (some .non :: t) S' = .bad ∧ runH sub x hs (some d0 :: t) S' = .bad)
      clear e1 e2 hb
      induction hh with
      | nil => exact .inl ⟨_, _, _, rfl, rfl⟩
      | @cons c i g g' r r' h hr ih =>
        simp only [runH]
        cases sub x.cls c with
        | none => exact .inr ⟨rfl, rfl⟩
        | some bb =>
          cases bb with
          | false => exact ih
          | true =>
            simp only [List.set_cons_succ]
            rcases h (t.set i (some (.xc x.cls x.ns x.ds))) S' with ⟨fl, t1, S1, e1, e2⟩ | ⟨e1, e2⟩
            · rw [e1, e2]
              cases fl with
              | nx => exact .inl ⟨_, _, _, rfl, rfl⟩
              | bk => exact .inl ⟨_, _, _, rfl, rfl⟩
              | ct => exact .inl ⟨_, _, _, rfl, rfl⟩
              | rt d => exact .inl ⟨_, _, _, rfl, rfl⟩
              | xc x => exact .inr ⟨rfl, rfl⟩
            · rw [e1, e2]; exact .inr ⟨rfl, rfl⟩
  · rw [e1, e2]; exact .inr ⟨rfl, rfl⟩
theorem re_deed {d0 : D} {dd : M D} : Re d0 (eDeed d0 dd) (fun _ => dd) := fun σ S => by
  unfold eDeed
  rw [if_pos (by simp)]
theorem uni_of {len : Nat} {b : LBody} (h : ∀ d0 dd, Rg d0 (b (eDeed d0 dd)) (b fun _ => dd)) : Uni len b := fun d0 dd S => by
  unfold runL
  rcases h d0 dd (List.replicate (len - 1) none) S with ⟨fl, t, S', e1, e2⟩ | ⟨e1, e2⟩
  · rw [e1, e2]; cases fl <;> rfl
  · rw [e1, e2]
section
variable {P : Program} {w : World} {K : PySem.W.Frag} {mg : Str → Option Value} {base : Heap}
theorem body_z {qual : Str} {body : List Stmt} {scope : Scope} {N ps : List Str} {n : Nat} {b : Sm} {f : Addr} {cdv : Value} {A : Around} {outer : List PySem.Env} {s : Shared} {H : Hp} {E : XK} {vs : List V} {Q : VK} (hn : ps.length = n)
    (hq : QSs (cxOf (L2.CX P w) P w K mg base N qual scope f cdv A outer s H E) body b) (h : spZ K mg n (runZ n N.length b) vs H Q E) :
    ∃ t, PSs (cxOf (L2.CX P w) P w K mg base N qual scope f cdv A outer s H E) body t ∧ t { nx := fun _ H' => Q .non H', rt := Q } (L2.start N vs) H := by
  refine ⟨_, pssw _, ?_⟩
  obtain ⟨m, S, ds, hl, rs, r, p⟩ := h
  have hd : ds.length = n := by rw [r.length, hl]
  have e : start N vs = vs.map some ++ List.replicate (N.length - n) none := by unfold start; rw [hl]
  rw [e]
  refine hq.run (fun c d _ H' => E c d H') (takes_of rfl rfl rfl rfl) m S _ _ H _ rs (RE.start r _) ?_
  unfold runZ at p
  rw [hd, show Nat.beq n n = true from Nat.beq_refl n] at p
  cases eb : b (ds.map some ++ List.replicate (N.length - n) none) S with
  | bad => simp only [eb] at p; exact p
  | exc y S' => simp only [eb] at p; exact p
  | ok y S' =>
    obtain ⟨fl, σ'⟩ := y
    cases fl with
    | nx => simp only [eb] at p; exact fun m' H' σv' x' rs' re' => p m' H' x' rs' .non (by simp only [RD])
    | bk => simp only [eb] at p; exact p.elim
    | ct => simp only [eb] at p; exact p.elim
    | rt d => simp only [eb] at p; exact fun m' H' v x' rs' rv => p m' H' x' rs' v rv
    | xc d => simp only [eb] at p; exact fun m' H' σv' c dd x' rs' re' rx => p m' H' c dd x' rs' rx
/-- fn_z, the def's code object told -/
theorem fn_zC {x : Str} {params : Arguments} {body : List Stmt} {scope : Scope} {dvs : List V} {kws : List (Str × V)} {fd : FuncData} {N ps : List Str} {k n : Nat} {b : Sm} (F : FunD K x x params body scope dvs kws (He.ga K x) fd) (Sc : FnScope N ps scope) (hn : ps.length = n)
    (hb : ∀ (cdv : Value), cdv = .ref (He.codeOf K (x, none)) → ∀ (A : Around) (outer : List PySem.Env) (s : Shared) (H : Hp) (E : XK), Room k (A.deeper (envOfC x scope s.heap.objs.size (He.ga K x) cdv)) → QSs (cxOf (L2.CX P w) P w K mg base N x scope (He.ga K x) cdv A outer s H E) body b) :
    FnOk P w K mg base (L2.CX P w) (k + 1) (He.ga K x) fd ps (spZ K mg n (runZ n N.length b)) := by
  obtain ⟨oc, od, dV, kV, doc, pm, an, cdv, ct, osl, rfl, lk, hcd, _, _⟩ := F.ex
  have e : cdv = .ref (He.codeOf K (x, none)) := by
    obtain ⟨c, rfl⟩ := He.codeIn_ref hcd
    exact congrArg Value.ref (He.codeOf_eq (p := (x, none)) lk rfl).symm
  subst e
  refine fn_of lk hcd Sc (fun vs H Q E h => ?_) fun A outer s H vs Q E hr h => body_z hn (hb _ rfl A outer s H E hr) h
  obtain ⟨_, _, _, hl, _⟩ := h
  rw [hl, hn]
end
end L2.Z

set_option Elab.async false
set_option linter.all false
set_option maxRecDepth 100000
set_option maxHeartbeats 4000000
/-! ZS: sorted of lists of ints and of tuples (of ints and of tuples of ints). -/
namespace L2.Z
open PySem PySem.Spec PyProof.Rows
/-! ### orders -/
structure Tor {α : Type} (lt : α → α → Bool) : Prop where
  irr : ∀ x, lt x x = false
  tr : ∀ x y z, lt x y = true → lt y z = true → lt x z = true
  tot : ∀ x y, x ≠ y → lt x y = true ∨ lt y x = true
def lexG {α : Type} [DecidableEq α] (lt : α → α → Bool) : List α → List α → Bool
  | [], [] => false
  | [], _ :: _ => true
  | _ :: _, [] => false
  | x :: xs, y :: ys => if x = y then lexG lt xs ys else lt x y
section
variable {α β : Type} [DecidableEq α] {lt : α → α → Bool}
theorem Tor.asym (O : Tor lt) {x y : α} (h : lt x y = true) : lt y x = false := by
  cases q : lt y x with
  | false => rfl
  | true => have := O.tr x y x h q; rw [O.irr] at this; cases this
theorem Tor.anti (O : Tor lt) {x y : α} (h : lt x y = false) (h2 : lt y x = false) : x = y := by
  by_cases e : x = y
  · exact e
  · rcases O.tot x y e with q | q
    · rw [h] at q; cases q
    · rw [h2] at q; cases q
theorem Tor.swo (O : Tor lt) (f : β → α) : SrtO.Swo fun x y => lt (f x) (f y) := by
  refine ⟨fun x y h => O.asym h, fun x y z h1 h2 => ?_⟩
  cases q : lt (f z) (f x) with
  | false => rfl
  | true =>
    by_cases e : f x = f y
    · rw [e] at q; rw [q] at h2; cases h2
    · rcases O.tot _ _ e with c | c
      · have := O.tr _ _ _ q c; rw [h2] at this; cases this
      · rw [h1] at c; cases c
theorem lexG_irr (O : Tor lt) : ∀ x, lexG lt x x = false
  | [] => rfl
  | a :: r => by simp only [lexG, if_true]; exact lexG_irr O r
theorem lexG_tot (O : Tor lt) : ∀ x y, x ≠ y → lexG lt x y = true ∨ lexG lt y x = true
  | [], [], h => absurd rfl h
  | [], _ :: _, _ => .inl rfl
  | _ :: _, [], _ => .inr rfl
  | a :: r, b :: t, h => by
    by_cases e : a = b
    · subst e
      simp only [lexG, if_true]
      exact lexG_tot O r t fun z => h (by rw [z])
    · simp only [lexG, if_neg e, if_neg (Ne.symm e)]
      exact O.tot a b e
theorem lexG_tr (O : Tor lt) : ∀ x y z, lexG lt x y = true → lexG lt y z = true → lexG lt x z = true
  | [], [], _, h, _ => by cases h
  | _ :: _, [], _, h, _ => by cases h
  | _, _ :: _, [], _, h => by cases h
  | [], _ :: _, _ :: _, _, _ => rfl
  | a :: r, b :: t, c :: u, h, k => by
    simp only [lexG] at h k ⊢
    by_cases e : a = b
    · subst e
      rw [if_pos rfl] at h
      by_cases e2 : a = c
      · subst e2
        rw [if_pos rfl] at k ⊢
        exact lexG_tr O r t u h k
      · rw [if_neg e2] at k ⊢; exact k
    · rw [if_neg e] at h
      by_cases e2 : b = c
      · subst e2
        rw [if_neg e]; exact h
      · rw [if_neg e2] at k
        have h3 := O.tr _ _ _ h k
        by_cases e3 : a = c
        · subst e3; rw [O.irr] at h3; cases h3
        · rw [if_neg e3]; exact h3
theorem Tor.lex (O : Tor lt) : Tor (lexG lt) := ⟨lexG_irr O, lexG_tr O, lexG_tot O⟩
end
theorem tor_int : Tor fun (a b : Int) => decide (a < b) := ⟨fun x => by simp, fun x y z h k => by simp at *; omega, fun x y h => by simp; omega⟩
theorem lex_HT : ∀ xs ys : List Int, HT.lexLt xs ys = lexG (fun a b => decide (a < b)) xs ys
  | [], [] => rfl
  | [], _ :: _ => rfl
  | _ :: _, [] => rfl
  | x :: xs, y :: ys => by
    rw [HT.lexLt_cons]
    simp only [lexG]
    rw [lex_HT xs ys]
/-- an item's part: its kind, its ints -/
abbrev Atm := Nat × List Int
def ltA (x y : Atm) : Bool := if x.1 = y.1 then HT.lexLt x.2 y.2 else decide (x.1 < y.1)
theorem tor_A : Tor ltA := by
  have T : Tor HT.lexLt := by
    have e : HT.lexLt = lexG (fun (a b : Int) => decide (a < b)) := by funext x y; exact lex_HT x y
    rw [e]; exact tor_int.lex
  refine ⟨fun x => ?_, fun x y z h k => ?_, fun x y h => ?_⟩
  · unfold ltA; rw [if_pos rfl]; exact T.irr _
  · unfold ltA at *
    by_cases e : x.1 = y.1
    · rw [if_pos e] at h
      by_cases e2 : y.1 = z.1
      · rw [if_pos e2] at k
        rw [if_pos (e.trans e2)]; exact T.tr _ _ _ h k
      · rw [if_neg e2] at k
        rw [if_neg (by rw [e]; exact e2), e]; exact k
    · rw [if_neg e] at h
      by_cases e2 : y.1 = z.1
      · rw [if_neg (by rw [← e2]; exact e), ← e2]; exact h
      · rw [if_neg e2] at k
        simp only [decide_eq_true_eq] at h k
        rw [if_neg (by omega)]
        simp only [decide_eq_true_eq]; omega
  · unfold ltA
    by_cases e : x.1 = y.1
    · rw [if_pos e, if_pos e.symm]
      exact T.tot _ _ fun z => h (Prod.ext e z)
    · rw [if_neg e, if_neg (Ne.symm e)]
      simp only [decide_eq_true_eq]; omega
abbrev Ky := List Atm
def ltK : Ky → Ky → Bool := lexG ltA
theorem tor_K : Tor ltK := tor_A.lex
/-! ### keys of data -/
def atmD : D → Option Atm
  | .int i => some (0, [i])
  | .tup xs => (intsOf xs).map fun l => (1, l)
  | _ => none
def atmsD : List D → Option Ky
  | [] => some []
  | d :: ds => match atmD d with
    | none => none
    | some a => match atmsD ds with
      | none => none
      | some r => some (a :: r)
def keyD : D → Option Ky
  | .tup (d :: ds) => atmsD (d :: ds)
  | _ => none
def kyD (d : D) : Ky := (keyD d).getD []
/-- two keys can be compared -/
def cmpK : Ky → Ky → Bool
  | x :: xs, y :: ys => Nat.beq x.1 y.1 && cmpK xs ys
  | _, _ => true
def cmpAll (xs : List D) : Bool := xs.all fun d => (keyD d).isSome && xs.all fun e => cmpK (kyD d) (kyD e)
def leD (a b : D) : Bool := !ltK (kyD b) (kyD a)
def srt (xs : List D) : Option (List D) := match intsOf xs with
  | some is => some ((is.mergeSort fun a b => decide (a ≤ b)).map .int)
  | none => match cmpAll xs with
    | true => some (xs.mergeSort leD)
    | false => none
def seqOf (d : D) (S : Sto) : Option (List D) := match d with
  | .loc n => lstAt S n
  | .tup xs => some xs
  | _ => none
@[irreducible] def fSorted : FL := fun ds S => match ds with
  | [d] => (seqOf d S).bind fun xs => (srt xs).map fun ys => (.loc S.n, S.push (.lst ys))
  | _ => none
theorem intsOf_eq : ∀ {xs : List D} {is : List Int}, intsOf xs = some is → xs = is.map .int
  | [], is, h => by cases h; rfl
  | d :: ds, is, h => by
    cases d with
    | int i =>
      simp only [intsOf] at h
      cases q : intsOf ds with
      | none => rw [q] at h; cases h
      | some r => rw [q] at h; cases h; rw [intsOf_eq q]; rfl
    | _ => cases h
theorem atmD_inj {d e : D} {a : Atm} (h : atmD d = some a) (k : atmD e = some a) : d = e := by
  cases d with
  | int i =>
    cases h
    cases e with
    | int j => cases k; rfl
    | tup ys =>
      simp only [atmD] at k
      cases q : intsOf ys with
      | none => rw [q] at k; cases k
      | some l => rw [q] at k; cases k
    | _ => cases k
  | tup xs =>
    simp only [atmD] at h
    cases q : intsOf xs with
    | none => rw [q] at h; cases h
    | some l =>
      rw [q] at h
      cases h
      cases e with
      | int j => cases k
      | tup ys =>
        simp only [atmD] at k
        cases q2 : intsOf ys with
        | none => rw [q2] at k; cases k
        | some l2 =>
          rw [q2] at k
          simp only [Option.map_some, Option.some.injEq, Prod.mk.injEq, true_and] at k
          subst k
          rw [intsOf_eq q, intsOf_eq q2]
      | _ => cases k
  | _ => cases h
theorem atmsD_inj : ∀ {ds es : List D} {a : Ky}, atmsD ds = some a → atmsD es = some a → ds = es
  | [], [], _, _, _ => rfl
  | [], e :: es, a, h, k => by
    cases h
    simp only [atmsD] at k
    split at k
    · cases k
    · split at k <;> cases k
  | d :: ds, [], a, h, k => by
    cases k
    simp only [atmsD] at h
    split at h
    · cases h
    · split at h <;> cases h
  | d :: ds, e :: es, a, h, k => by
    simp only [atmsD] at h k
    split at h
    · cases h
    · rename_i x hx
      split at h
      · cases h
      · rename_i r hr
        cases h
        split at k
        · cases k
        · rename_i y hy
          split at k
          · cases k
          · rename_i t ht
            cases k
            rw [atmD_inj hx hy, atmsD_inj hr ht]
theorem keyD_tup {d : D} {k : Ky} (h : keyD d = some k) : ∃ x xs, d = .tup (x :: xs) ∧ atmsD (x :: xs) = some k := by
  cases d with
  | tup xs =>
    cases xs with
    | nil => cases h
    | cons x xs => exact ⟨x, xs, rfl, h⟩
  | _ => cases h
theorem keyD_inj {d e : D} {a : Ky} (h : keyD d = some a) (k : keyD e = some a) : d = e := by
  obtain ⟨x, xs, rfl, h⟩ := keyD_tup h
  obtain ⟨y, ys, rfl, k⟩ := keyD_tup k
  rw [atmsD_inj h k]
theorem kyD_of {d : D} {k : Ky} (h : keyD d = some k) : kyD d = k := by unfold kyD; rw [h]; rfl
/-! ### two sorted lists of the same things -/
theorem sort_uniq {α : Type} {lt : α → α → Bool} : ∀ {l m : List α}, (∀ x ∈ l, ∀ y ∈ l, lt x y = false → lt y x = false → x = y) → l.Perm m → l.Pairwise (fun x y => lt y x = false) → m.Pairwise (fun x y => lt y x = false) → l = m
  | [], m, _, p, _, _ => by rw [List.nil_perm.mp p]
  | a :: l, m, an, p, s1, s2 => by
    cases m with
    | nil => exact absurd (List.Perm.length_eq p) (by simp)
    | cons b m =>
      have key : a = b := by
        have ha : a ∈ b :: m := p.subset List.mem_cons_self
        have hb : b ∈ a :: l := p.symm.subset List.mem_cons_self
        rcases List.mem_cons.mp ha with e | ha1
        · exact e
        · rcases List.mem_cons.mp hb with e | hb1
          · exact e.symm
          · exact an a List.mem_cons_self b hb ((List.pairwise_cons.mp s2).1 a ha1) ((List.pairwise_cons.mp s1).1 b hb1)
      subst key
      rw [sort_uniq (fun x hx y hy => an x (List.mem_cons_of_mem _ hx) y (List.mem_cons_of_mem _ hy)) (List.Perm.cons_inv p) (List.pairwise_cons.mp s1).2 (List.pairwise_cons.mp s2).2]
theorem leD_trans (a b c : D) (h : leD a b = true) (k : leD b c = true) : leD a c = true := by
  unfold leD at *
  simp only [Bool.not_eq_eq_eq_not, Bool.not_true] at *
  exact (tor_K.swo kyD).tr a b c h k
theorem leD_total (a b : D) : (leD a b || leD b a) = true := by
  unfold leD
  cases q : ltK (kyD b) (kyD a) with
  | false => rfl
  | true => rw [tor_K.asym q]; rfl
theorem srt_items {xs : List D} (h : cmpAll xs = true) {ys : List D} (p : ys.Perm xs) (s : ys.Pairwise fun x y => ltK (kyD y) (kyD x) = false) : ys = xs.mergeSort leD := by
  have pm : ys.Perm (xs.mergeSort leD) := p.trans (List.mergeSort_perm xs leD).symm
  refine sort_uniq (lt := fun x y => ltK (kyD x) (kyD y)) (fun x hx y hy h1 h2 => ?_) pm s ?_
  · have e := tor_K.anti h1 h2
    have hx1 := List.all_eq_true.mp h x (p.subset hx)
    have hy1 := List.all_eq_true.mp h y (p.subset hy)
    obtain ⟨kx, ex⟩ := Option.isSome_iff_exists.mp (Bool.and_eq_true_iff.mp hx1).1
    obtain ⟨ky, ey⟩ := Option.isSome_iff_exists.mp (Bool.and_eq_true_iff.mp hy1).1
    rw [kyD_of ex, kyD_of ey] at e
    rw [e] at ex
    exact keyD_inj ex ey
  · refine (List.pairwise_mergeSort (le := leD) leD_trans leD_total xs).imp fun {a b} q => ?_
    unfold leD at q
    simpa using q
theorem srt_ints {is ns : List Int} (p : ns.Perm is) (s : ns.Pairwise (· ≤ ·)) : ns = is.mergeSort fun a b => decide (a ≤ b) := by
  have pm := p.trans (List.mergeSort_perm is fun a b => decide (a ≤ b)).symm
  refine sort_uniq (lt := fun x y => decide (x < y)) (fun x _ y _ h1 h2 => ?_) pm (s.imp fun {a b} q => by simpa using q) ?_
  · simp only [decide_eq_false_iff_not] at h1 h2; omega
  · refine (List.pairwise_mergeSort (le := fun a b => decide (a ≤ b)) (fun a b c h k => by simp at *; omega) (fun a b => by simp; omega) is).imp fun {a b} q => ?_
    simpa using q
/-! ### how keys lie in a heap -/
def AtV (h : Heap) (a : Atm) (v : Value) : Prop := (∃ i t, a = (0, [i]) ∧ v = .int i t) ∨ ∃ b its, a.1 = 1 ∧ v = .ref b ∧ IsTup h b its ∧ IntsAre its.toList a.2
inductive AtsV (h : Heap) : Ky → List Value → Prop
  | nil : AtsV h [] []
  | cons {a : Atm} {v : Value} {k : Ky} {vs : List Value} : AtV h a v → AtsV h k vs → AtsV h (a :: k) (v :: vs)
def KyV (h : Heap) (k : Ky) (v : Value) : Prop := ∃ b its, v = .ref b ∧ IsTup h b its ∧ AtsV h k its.toList
theorem tupKeeps {h h' : Heap} {b : Addr} {its : Array Value} (x : IsTup h b its) (k : ∀ c o, h.get? c = some o → o.cls = .type "tuple" → h'.get? c = some o) : IsTup h' b its := by
  obtain ⟨o, ho, hc, n, hd⟩ := x
  exact ⟨o, k b o ho hc, hc, n, hd⟩
theorem AtV.keeps {h h' : Heap} {a : Atm} {v : Value} (x : AtV h a v) (k : ∀ c o, h.get? c = some o → o.cls = .type "tuple" → h'.get? c = some o) : AtV h' a v := by
  rcases x with x | ⟨b, its, h1, h2, h3, h4⟩
  · exact .inl x
  · exact .inr ⟨b, its, h1, h2, tupKeeps h3 k, h4⟩
theorem AtsV.keeps {h h' : Heap} {a : Ky} {v : List Value} (x : AtsV h a v) (k : ∀ c o, h.get? c = some o → o.cls = .type "tuple" → h'.get? c = some o) : AtsV h' a v := by
  induction x with
  | nil => exact .nil
  | cons p q ih => exact .cons (p.keeps k) ih
theorem KyV.keeps {h h' : Heap} {a : Ky} {v : Value} (x : KyV h a v) (k : ∀ c o, h.get? c = some o → o.cls = .type "tuple" → h'.get? c = some o) : KyV h' a v := by
  obtain ⟨b, its, h1, h2, h3⟩ := x
  exact ⟨b, its, h1, tupKeeps h2 k, h3.keeps k⟩
theorem ints_reads {h : Heap} {vs : List Value} {ns : List Int} (x : IntsAre vs ns) : ReadsAll h vs (ns.map .int) [] := by
  induction x with
  | nil => exact .nil
  | cons n t _ ih => exact .cons (as := []) (bs := []) (.int n t) ih
theorem lay_ints : ∀ ns : List Int, PyData.canLayAll0 (ns.map .int) = true
  | [] => rfl
  | n :: ns => by simp only [List.map_cons, PyData.canLayAll0, PyData.canLay0, lay_ints ns, Bool.and_self]
theorem depth_ints : ∀ ns : List Int, PyData.depthAll (ns.map .int) = 0
  | [] => rfl
  | n :: ns => by simp only [List.map_cons, PyData.depthAll, PyData.depth, depth_ints ns, Nat.max_self]
theorem eqv_ints : ∀ (ns ms : List Int), PyData.eqvAll (ns.map .int) (ms.map .int) = decide (ns = ms)
  | [], [] => rfl
  | [], _ :: _ => rfl
  | _ :: _, [] => rfl
  | n :: ns, m :: ms => by
    simp only [List.map_cons, PyData.eqvAll, PyData.eqv, eqv_ints ns ms]
    by_cases e : n = m
    · subst e
      by_cases e2 : ns = ms
      · simp [e2]
      · simp [e2]
    · simp [e]
theorem atv_eq {A : Around} {s : Shared} {a b : Atm} {v u : Value} (x : AtV s.heap a v) (y : AtV s.heap b u) (hk : a.1 = b.1) (hu : A.units + 64 < cLine) : SeqAt.EqAt A s v u (decide (a = b)) := by
  rcases x with ⟨i, t, rfl, rfl⟩ | ⟨p, its, h1, rfl, h3, h4⟩
  · rcases y with ⟨j, t2, rfl, rfl⟩ | ⟨q, its2, k1, rfl, k3, k4⟩
    · have e := SeqAt.EqAt.int_int (A := A) (s := s) i t j t2
      have : (i == j) = decide (((0, [i]) : Atm) = (0, [j])) := by
        by_cases c : i = j
        · subst c; simp
        · simp [c]
      rw [this] at e; exact e
    · rw [k1] at hk; cases hk
  · rcases y with ⟨j, t2, rfl, rfl⟩ | ⟨q, its2, k1, rfl, k3, k4⟩
    · rw [h1] at hk; cases hk
    · obtain ⟨o, ho, hc, n, hd⟩ := h3
      obtain ⟨o2, ho2, hc2, n2, hd2⟩ := k3
      have e := SeqAt.eqAt_reads (.tuple (a.2.map .int)) (.tuple (b.2.map .int)) A s (.ref p) (.ref q) _ _ (.tuple ho hc hd (ints_reads h4)) (.tuple ho2 hc2 hd2 (ints_reads k4)) (lay_ints _) (lay_ints _) (by
        simp only [PyData.depth, depth_ints]; omega)
      have : PyData.eqv (.tuple (a.2.map .int)) (.tuple (b.2.map .int)) = decide (a = b) := by
        simp only [PyData.eqv, eqv_ints]
        obtain ⟨a1, a2⟩ := a
        obtain ⟨b1, b2⟩ := b
        simp only at hk
        subst hk
        by_cases c : a2 = b2
        · subst c; simp
        · simp [c]
      rw [this] at e; exact e
section
variable {prog : Program} {w : World} {A : Around} {E : Value → Shared → Prop} {s : Shared}
theorem atv_lt {f : Bool} {a b : Atm} {v u : Value} {Q : Bool → Shared → Prop} (x : AtV s.heap a v) (y : AtV s.heap b u) (hk : a.1 = b.1) (hf : f = true → a.1 = 0) (hu : A.units + 64 < cLine) (hne : a ≠ b) (q : Q (ltA a b) s) : wpAny (model prog w) A (oneLt' f v u) Q E s := by
  unfold ltA at q
  rw [if_pos hk] at q
  rcases x with ⟨i, t, rfl, rfl⟩ | ⟨p, its, h1, rfl, h3, h4⟩
  · rcases y with ⟨j, t2, rfl, rfl⟩ | ⟨r, its2, k1, rfl, k3, k4⟩
    · refine PyProof.Rows.oneLt_any_int ?_
      have : HT.lexLt [i] [j] = decide (i < j) := by
        rw [HT.lexLt_cons, if_neg (fun c => hne (by rw [c]))]
      rw [← this]; exact q
    · rw [k1] at hk; cases hk
  · rcases y with ⟨j, t2, rfl, rfl⟩ | ⟨r, its2, k1, rfl, k3, k4⟩
    · rw [h1] at hk; cases hk
    · cases f with
      | true => have := hf rfl; rw [h1] at this; cases this
      | false => exact PySem.W.kat_one _ _ (HT.lt_tupInts h3 k3 h4 k4 (by omega) q)
theorem kat_ky {b fin : Bool} {Q : Bool → Shared → Prop} (hu : A.units + 64 < cLine) : ∀ {ks ls : Ky} {vs us : List Value} {i : Nat}, AtsV s.heap ks vs → AtsV s.heap ls us → cmpK ks ls = true → fin = decide (ks.length < ls.length) →
    (b = true → i = 0 → ∀ a ∈ ks.head?, a.1 = 0) → Q (ltK ks ls) s → PySem.W.KatLex prog w A b fin Q (vs.zip us) i s
  | [], [], _, _, i, .nil, .nil, hc, hf, hb, q => by
    subst hf
    exact PySem.W.kat_nil q
  | [], _ :: _, _, _, i, .nil, .cons _ _, hc, hf, hb, q => by
    subst hf
    exact PySem.W.kat_nil (by simpa [ltK, lexG] using q)
  | _ :: _, [], _, _, i, .cons _ _, .nil, hc, hf, hb, q => by
    subst hf
    exact PySem.W.kat_nil (by simpa [ltK, lexG] using q)
  | k :: ks, l :: ls, _, _, i, .cons x xs, .cons y ys, hc, hf, hb, q => by
    simp only [cmpK, Bool.and_eq_true] at hc
    have hk : k.1 = l.1 := Nat.eq_of_beq_eq_true hc.1
    refine PySem.W.kat_cons (atv_eq x y hk hu prog w _ _ ?_)
    refine PySem.W.kat_go (fun e => ?_) (fun e => ?_)
    · have e1 : k = l := of_decide_eq_true e
      subst e1
      refine PySem.W.kat_yes (kat_ky hu xs ys hc.2 ?_ (fun _ c => by omega) ?_)
      · rw [hf]; simp
      · simpa [ltK, lexG] using q
    · have e1 : k ≠ l := of_decide_eq_false e
      refine PySem.W.kat_no (atv_lt x y hk (fun c => ?_) hu e1 ?_)
      · rw [Bool.and_eq_true, beq_iff_eq] at c
        exact hb c.1 c.2 k (by simp)
      · simpa [ltK, lexG, e1] using q
/-- any two of them compare by their keys -/
theorem cmp_ky {b : Bool} {vs : List Value} {ky : Value → Ky} (hu : A.units + 64 < cLine) (hv : ∀ v ∈ vs, KyV s.heap (ky v) v) (hc : ∀ v ∈ vs, ∀ u ∈ vs, cmpK (ky v) (ky u) = true) (hb : b = true → ∀ v ∈ vs, ∀ a ∈ (ky v).head?, a.1 = 0) :
    SrtO.Cmp prog w A s (tuples' b) (fun p => p.1 ∈ vs) (SrtO.lt2 fun v u => ltK (ky v) (ky u)) := by
  intro p q hp hq
  obtain ⟨x, its, e1, ⟨o, ho, _, n, hd⟩, a1⟩ := hv _ hp
  obtain ⟨y, its2, e2, ⟨o2, ho2, _, n2, hd2⟩, a2⟩ := hv _ hq
  have c := hc _ hp _ hq
  have hb1 := fun z => hb z _ hp
  show wpAny (model prog w) A (keyLt' (tuples' b) p.1 q.1) (fun r s' => s' = s ∧ r = ltK (ky p.1) (ky q.1)) (fun _ _ => False) s
  generalize ky p.1 = k1 at *
  generalize ky q.1 = k2 at *
  rw [e1, e2]
  have len : ∀ {k : Ky} {us : List Value}, AtsV s.heap k us → k.length = us.length := fun h => by
    induction h with
    | nil => rfl
    | cons _ _ ih => simp [ih]
  refine PySem.W.kat_lt ho hd ho2 hd2 (kat_ky hu a1 a2 c ?_ (fun z _ => hb1 z) ⟨rfl, rfl⟩)
  rw [len a1, len a2, Array.length_toList, Array.length_toList]
theorem sortable_ky {a : Addr} {vs : List Value} {ky : Value → Ky} (hu : A.units + 64 < cLine) (h0 : 0 < vs.length) (hv : ∀ v ∈ vs, KyV s.heap (ky v) v) (hne : ∀ v ∈ vs, ky v ≠ []) (hc : ∀ v ∈ vs, ∀ u ∈ vs, cmpK (ky v) (ky u) = true) (ha : ∀ o, s.heap.get? a = some o → o.cls ≠ .type "tuple") :
    SrtO.SortableO prog w A s a vs fun v u => ltK (ky v) (ky u) := by
  intro h' keep
  have hv' : ∀ v ∈ vs, KyV h' (ky v) v := fun v hm => (hv v hm).keeps fun c o e cl => keep c o (fun z => by subst z; exact ha o e cl) e
  obtain ⟨v0, hv0⟩ : ∃ v, v ∈ vs := List.exists_mem_of_length_pos h0
  obtain ⟨a0, k0, ek0⟩ : ∃ a r, ky v0 = a :: r := by
    cases q : ky v0 with
    | nil => exact absurd q (hne v0 hv0)
    | cons a r => exact ⟨a, r, rfl⟩
  -- the first parts
  have firsts : ∀ (us : List Value), (∀ v ∈ us, v ∈ vs) → ∃ fs, PySem.W.KatTups h' us fs ∧ fs.length = us.length ∧ ∀ f ∈ fs, ∃ at_ : Atm, at_.1 = a0.1 ∧ AtV h' at_ f := fun us => by
    induction us with
    | nil => exact fun _ => ⟨[], PySem.W.KatTups.nil, rfl, by simp⟩
    | cons v us ih =>
      intro hm
      obtain ⟨fs, t, hl, hf⟩ := ih fun u hu => hm u (List.mem_cons_of_mem _ hu)
      have hvm := hm v List.mem_cons_self
      obtain ⟨x, its, rfl, ⟨o, ho, hcl, n, hd⟩, a1⟩ := hv' v hvm
      have c := hc _ hv0 _ hvm
      rw [ek0] at c
      cases q : ky (.ref x) with
      | nil => exact absurd q (hne _ hvm)
      | cons at1 r =>
        rw [q] at a1 c
        generalize hil : its.toList = il at a1
        cases a1 with
        | cons p1 p2 =>
          rename_i f rest
          simp only [cmpK, Bool.and_eq_true] at c
          refine ⟨f :: fs, PySem.W.KatTups.cons ho hcl hd (by rw [← Array.getElem?_toList, hil]; rfl) t, by simp [hl], fun g hg => ?_⟩
          rcases List.mem_cons.mp hg with rfl | hg
          · exact ⟨at1, (Nat.eq_of_beq_eq_true c.1).symm, p1⟩
          · exact hf g hg
  obtain ⟨fs, ht, hl, hf⟩ := firsts vs fun _ h => h
  have hfl : 0 < fs.length := by rw [hl]; exact h0
  by_cases e0 : a0.1 = 0
  · refine ⟨tuples' true, fun Q E q => ?_, cmp_ky hu hv' hc fun _ v hm a hma => ?_⟩
    · refine PySem.W.kat_kind (T := .type "int") ht hfl (fun f hm => ?_) (by rfl) ?_
      · obtain ⟨at1, e1, h1⟩ := hf f hm
        rcases h1 with ⟨i, t, rfl, rfl⟩ | ⟨p, its, h1, rfl, h3, h4⟩
        · exact PySem.W.Looks.now
        · rw [e1, e0] at h1; cases h1
      · have e : (Value.type "int" != Value.type "tuple") = true := by decide +kernel
        rw [e]; exact q
    · have c := hc _ hv0 _ hm
      rw [ek0] at c
      cases q : ky v with
      | nil => rw [q] at hma; cases hma
      | cons at1 r =>
        rw [q] at c hma
        simp only [cmpK, Bool.and_eq_true] at c
        simp only [List.head?_cons, Option.mem_def, Option.some.injEq] at hma
        subst hma
        rw [← Nat.eq_of_beq_eq_true c.1]; exact e0
  · refine ⟨tuples' false, fun Q E q => ?_, cmp_ky hu hv' hc fun z => by cases z⟩
    refine PySem.W.kat_kind (T := .type "tuple") ht hfl (fun f hm => ?_) (by rfl) ?_
    · obtain ⟨at1, e1, h1⟩ := hf f hm
      rcases h1 with ⟨i, t, rfl, rfl⟩ | ⟨p, its, h1, rfl, ⟨o, ho, hcl, n, hd⟩, h4⟩
      · exact absurd e1.symm e0
      · rw [← hcl]
        exact (PySem.W.Looks.ld ho).andThen PySem.W.Looks.now
    · have e : (Value.type "tuple" != Value.type "tuple") = false := by decide +kernel
      rw [e]; exact q
end
/-! ### the call -/
variable [HasT]
section
variable {X : Cx} {pins : List (Addr × Obj)} {σ : St} {H : Hp} {s : Shared} {m : List Addr}
theorem rds_ints {K : PySem.W.Frag} : ∀ {is : List Int} {vs : List V}, RDs K m H (is.map .int) vs → vs = is.map V.int
  | [], vs, h => by simpa only [List.map_nil, RDs] using h
  | i :: is, vs, h => by
    simp only [List.map_cons, RDs] at h
    obtain ⟨v, r, rfl, rd, rr⟩ := h
    simp only [RD] at rd
    rw [rd, rds_ints rr]; rfl
theorem atv_of (I : Inv X pins σ H s) {d : D} {v : V} {u : Value} {a : Atm} (r : RD X.K m H d v) (ru : RelV v u) (e : atmD d = some a) : AtV s.heap a u := by
  cases d with
  | int i =>
    cases e
    simp only [RD] at r
    subst r
    obtain ⟨t, rfl⟩ := ru
    exact .inl ⟨i, t, rfl, rfl⟩
  | tup xs =>
    simp only [atmD] at e
    cases q : intsOf xs with
    | none => rw [q] at e; cases e
    | some l =>
      rw [q] at e
      cases e
      simp only [RD] at r
      obtain ⟨p, vs, rfl, hs, rr⟩ := r
      have eu : u = Value.ref p := ru
      subst eu
      rw [intsOf_eq q] at rr
      rw [rds_ints rr] at hs
      obtain ⟨its, rv, ht, _⟩ := I.tuple hs
      exact .inr ⟨p, its.toArray, rfl, rfl, ht, by simpa using intsAre_of rv⟩
  | _ => cases e
theorem atsv_of (I : Inv X pins σ H s) : ∀ {ds : List D} {vs : List V} {us : List Value} {k : Ky}, RDs X.K m H ds vs → Vals vs us → atmsD ds = some k → AtsV s.heap k us
  | [], vs, us, k, r, rv, e => by
    cases e
    simp only [RDs] at r
    subst r
    cases rv
    exact .nil
  | d :: ds, vs, us, k, r, rv, e => by
    simp only [RDs] at r
    obtain ⟨v, w, rfl, rd, rr⟩ := r
    cases rv with
    | cons h t =>
      simp only [atmsD] at e
      split at e
      · cases e
      · rename_i a ha
        split at e
        · cases e
        · rename_i k2 hk
          cases e
          exact .cons (atv_of I rd h ha) (atsv_of I rr t hk)
theorem kyv_of (I : Inv X pins σ H s) {d : D} {v : V} {u : Value} {k : Ky} (r : RD X.K m H d v) (ru : RelV v u) (e : keyD d = some k) : KyV s.heap k u ∧ k ≠ [] ∧ ∃ a, v = .ref a := by
  obtain ⟨x, xs, rfl, h⟩ := keyD_tup e
  simp only [RD] at r
  obtain ⟨p, vs, rfl, hs, rr⟩ := r
  have eu : u = Value.ref p := ru
  subst eu
  obtain ⟨its, rv, ht, _⟩ := I.tuple hs
  refine ⟨⟨p, its.toArray, rfl, ht, by simpa using atsv_of I rr rv h⟩, ?_, p, rfl⟩
  intro z
  subst z
  simp only [atmsD] at h
  split at h
  · cases h
  · split at h <;> cases h
theorem atm_inj (I : Inv X pins σ H s) {d e : D} {v : V} {a b : Atm} (r : RD X.K m H d v) (r2 : RD X.K m H e v) (h : atmD d = some a) (k : atmD e = some b) : d = e := by
  cases d with
  | int i =>
    simp only [RD] at r
    subst r
    cases e with
    | int j => simp only [RD] at r2; cases r2; rfl
    | tup ys => simp only [RD] at r2; obtain ⟨_, _, z, _⟩ := r2; cases z
    | _ => cases k
  | tup xs =>
    simp only [RD] at r
    obtain ⟨p, vs, rfl, hs, rr⟩ := r
    cases e with
    | int j => simp only [RD] at r2; cases r2
    | tup ys =>
      simp only [RD] at r2
      obtain ⟨p2, vs2, z, hs2, rr2⟩ := r2
      cases z
      simp only [atmD] at h k
      cases q : intsOf xs with
      | none => rw [q] at h; cases h
      | some l =>
        cases q2 : intsOf ys with
        | none => rw [q2] at k; cases k
        | some l2 =>
          rw [intsOf_eq q] at rr ⊢
          rw [intsOf_eq q2] at rr2 ⊢
          have e1 := rds_ints rr
          have e2 := rds_ints rr2
          have e3 := I.tuple_inj hs hs2
          rw [e1, e2] at e3
          have : l = l2 := by
            clear rr rr2 e1 e2 hs hs2 q q2 h k
            induction l generalizing l2 with
            | nil => cases l2 with
              | nil => rfl
              | cons _ _ => cases e3
            | cons x l ih => cases l2 with
              | nil => cases e3
              | cons y l2 =>
                simp only [List.map_cons, List.cons.injEq, V.int.injEq] at e3
                rw [e3.1, ih _ e3.2]
          rw [this]
    | _ => cases k
  | _ => cases h
theorem atms_inj (I : Inv X pins σ H s) : ∀ {ds es : List D} {vs : List V} {a b : Ky}, RDs X.K m H ds vs → RDs X.K m H es vs → atmsD ds = some a → atmsD es = some b → ds = es
  | [], [], _, _, _, _, _, _, _ => rfl
  | [], e :: es, vs, a, b, r, r2, _, _ => by
    simp only [RDs] at r r2
    subst r
    obtain ⟨_, _, z, _⟩ := r2
    cases z
  | d :: ds, [], vs, a, b, r, r2, _, _ => by
    simp only [RDs] at r r2
    subst r2
    obtain ⟨_, _, z, _⟩ := r
    cases z
  | d :: ds, e :: es, vs, a, b, r, r2, h, k => by
    simp only [RDs] at r r2
    obtain ⟨v, w, rfl, rd, rr⟩ := r
    obtain ⟨v2, w2, z, rd2, rr2⟩ := r2
    cases z
    simp only [atmsD] at h k
    split at h
    · cases h
    · rename_i x hx
      split at h
      · cases h
      · rename_i y hy
        split at k
        · cases k
        · rename_i x2 hx2
          split at k
          · cases k
          · rename_i y2 hy2
            rw [atm_inj I rd rd2 hx hx2, atms_inj I rr rr2 hy hy2]
theorem key_inj (I : Inv X pins σ H s) {d e : D} {v : V} {a b : Ky} (r : RD X.K m H d v) (r2 : RD X.K m H e v) (h : keyD d = some a) (k : keyD e = some b) : d = e := by
  obtain ⟨x, xs, rfl, h⟩ := keyD_tup h
  obtain ⟨y, ys, rfl, k⟩ := keyD_tup k
  have r0 := r
  have r1 := r2
  simp only [RD] at r r2
  obtain ⟨p, vs, rfl, hs, rr⟩ := r
  obtain ⟨p2, vs2, z, hs2, rr2⟩ := r2
  cases z
  rw [I.tuple_inj hs hs2] at rr
  rw [atms_inj I rr rr2 h k]
open Classical in
/-- the data at a value -/
noncomputable def dOf (K : PySem.W.Frag) (m : List Addr) (H : Hp) (v : V) : D := if h : ∃ d, RD K m H d v ∧ (keyD d).isSome = true then h.choose else .non
theorem dOf_eq (I : Inv X pins σ H s) {d : D} {v : V} {k : Ky} (r : RD X.K m H d v) (h : keyD d = some k) : dOf X.K m H v = d := by
  have ex : ∃ d, RD X.K m H d v ∧ (keyD d).isSome = true := ⟨d, r, by rw [h]; rfl⟩
  unfold dOf
  rw [dif_pos ex]
  have c := ex.choose_spec
  obtain ⟨k2, e2⟩ := Option.isSome_iff_exists.mp c.2
  exact key_inj I c.1 r e2 h
theorem map_dOf (I : Inv X pins σ H s) : ∀ {ds : List D} {vs : List V}, RDs X.K m H ds vs → (∀ d ∈ ds, (keyD d).isSome = true) → vs.map (dOf X.K m H) = ds ∧ ∀ v ∈ vs, RD X.K m H (dOf X.K m H v) v ∧ dOf X.K m H v ∈ ds ∧ ∃ a, v = .ref a
  | [], vs, r, _ => by
    simp only [RDs] at r
    subst r
    exact ⟨rfl, by simp⟩
  | d :: ds, vs, r, h => by
    simp only [RDs] at r
    obtain ⟨v, w, rfl, rd, rr⟩ := r
    obtain ⟨k, e⟩ := Option.isSome_iff_exists.mp (h d List.mem_cons_self)
    obtain ⟨h1, h2⟩ := map_dOf I rr fun d hd => h d (List.mem_cons_of_mem _ hd)
    have e1 := dOf_eq I rd e
    refine ⟨by rw [List.map_cons, e1, h1], fun u hu => ?_⟩
    rcases List.mem_cons.mp hu with rfl | hu
    · refine ⟨by rw [e1]; exact rd, by rw [e1]; exact List.mem_cons_self, ?_⟩
      obtain ⟨x, xs, rfl, _⟩ := keyD_tup e
      simp only [RD] at rd
      obtain ⟨p, _, z, _⟩ := rd
      exact ⟨p, z⟩
    · obtain ⟨q1, q2, q3⟩ := h2 u hu
      exact ⟨q1, List.mem_cons_of_mem _ q2, q3⟩
theorem rds_map {K : PySem.W.Frag} {f : V → D} : ∀ {vs : List V}, (∀ v ∈ vs, RD K m H (f v) v) → RDs K m H (vs.map f) vs
  | [], _ => by simp only [List.map_nil, RDs]
  | v :: vs, h => by
    simp only [List.map_cons, RDs]
    exact ⟨v, vs, rfl, h v List.mem_cons_self, rds_map fun u hu => h u (List.mem_cons_of_mem _ hu)⟩
end
theorem fSorted_some {ds : List D} {S S' : Sto} {d : D} (e : fSorted ds S = some (d, S')) : ∃ d0 xs ys, ds = [d0] ∧ seqOf d0 S = some xs ∧ srt xs = some ys ∧ d = .loc S.n ∧ S' = S.push (.lst ys) := by
  unfold fSorted at e
  split at e
  · rename_i d0
    cases q : seqOf d0 S with
    | none => rw [q] at e; cases e
    | some xs =>
      rw [q] at e
      simp only [Option.bind_some] at e
      cases q2 : srt xs with
      | none => rw [q2] at e; cases e
      | some ys =>
        rw [q2] at e
        simp only [Option.map_some, Option.some.injEq, Prod.mk.injEq] at e
        exact ⟨d0, xs, ys, rfl, q, q2, e.1.symm, e.2.symm⟩
  · cases e
section
variable {prog : Program} {w : World} {A : Around} {E : Value → Shared → Prop} {s : Shared}
/-- the items of a tuple, in a list made on the way -/
theorem collect_tup {l : Addr} {o : Obj} {vs : List Value} {n : Nat} {Q : List Value → Shared → Prop} (ho : s.heap.get? l = some o) (hc : o.cls = .type "tuple") (hd : o.data = .seq vs.toArray n) (hz : vs.length ≤ sizeLine)
    (q : Q vs { s with heap := (s.heap.push (seqObj "list" #[] 0)).update s.heap.objs.size (Obj.mapSeq (· ++ vs.toArray)) }) : wpAny (model prog w) A (collect (.ref l)) Q E s := by
  have old := Heap.get?_push_of_some (o := seqObj "list" #[] 0) ho
  unfold collect
  refine wpAny_bind (wpAny_runValue (codeAny_builtin PyProof.Rows.entry_proto_collect' ?_))
  show wpAny _ _ (do again (.builtin "list.__iadd__" ⟨[← newList [], .ref l], []⟩)) _ _ _
  refine wpAny_bind (wpAny_newList (wpAny_pure ⟨Code.quiet_builtin _ (by decide +kernel), codeAny_builtin PyProof.Rows.entry_list_iadd' ?_⟩))
  show wpAny _ _ (Builtin.List.listExtendWith (.ref s.heap.objs.size) (.ref l) _) _ _ { s with heap := s.heap.push (seqObj "list" #[] 0) }
  unfold Builtin.List.listExtendWith
  refine wpAny_bind (wpAny_typeOf (T := "tuple") ⟨o, old, hc⟩ ?_)
  have two : (Value.type "tuple" == Value.type "tuple") = true := rfl
  rw [if_pos (by rw [two]; simp)]
  refine wpAny_bind (PyProof.Rows.listItems_at old hd (wpAny_bind (PyProof.Rows.listItems_at (xs := #[]) (n := 0) (Heap.get?_push_size _ rfl) rfl ?_)))
  rw [if_neg (by simp)]
  refine wpAny_bind (PyProof.Rows.listUpdate_at (n := 0) (xs := #[]) (Heap.get?_push_size _ rfl) rfl ?_ (Nat.zero_le _) (by show ((#[] : Array Value) ++ vs.toArray).size ≤ sizeLine + 1; simp; omega))
  refine wpAny_pure (show wpAny (model prog w) A (load s.heap.objs.size >>= _) Q E _ from ?_)
  refine wpAny_bind (wpAny_load (PyProof.Rows.get?_update_seq (Heap.get?_push_size _ rfl) _) (wpAny_pure ?_))
  rw [show ((#[] : Array Value) ++ vs.toArray).toList = vs by simp]
  exact q
theorem sorted_tup {l : Addr} {o : Obj} {vs : List Value} {n : Nat} {ltv : Value → Value → Bool} {Q : Value → Shared → Prop} (O : SrtO.Swo ltv) (ho : s.heap.get? l = some o) (hc : o.cls = .type "tuple") (hd : o.data = .seq vs.toArray n) (hz : vs.length ≤ sizeLine)
    (hS : 2 ≤ vs.length → ∀ (h1 : Heap) (a : Addr), h1.get? a = some (seqObj "list" vs.toArray 0) → (∀ b ob, s.heap.get? b = some ob → b ≠ a ∧ h1.get? b = some ob) → SrtO.SortableO prog w A.in1.in1 { s with heap := h1 } a vs ltv)
    (h : ∀ out : List Value, SrtO.Srtd ltv out → SrtO.Stb ltv out vs → Q (.ref (s.heap.objs.size + 1)) { s with heap := PyProof.Rows.sortedAll s.heap vs out.toArray }) : wpAny (model prog w) A (call (.builtin "sorted") [.ref l]) Q E s := by
  refine Calls.call_function_entry PyProof.Rows.kind_sorted PyProof.Rows.plain_sorted PyProof.Rows.entry_sorted (PyProof.Rows.args_sorted1 _) ?_
  unfold Builtin.«sorted»
  refine wpAny_bind (m := checkCount "sorted" 1 1 _) (wpAny_pure (wpAny_bind (collect_tup ho hc hd hz (wpAny_bind (wpAny_newList ?_ hz)))))
  generalize hH : (s.heap.push (seqObj "list" #[] 0)).update s.heap.objs.size (Obj.mapSeq (· ++ vs.toArray)) = h1
  have sz : h1.objs.size = s.heap.objs.size + 1 := by rw [← hH, Heap.size_update, PyProof.Rows.size_push']
  have kp : ∀ b ob, s.heap.get? b = some ob → h1.get? b = some ob := fun b ob q => by
    rw [← hH, Heap.get?_update_ne _ _ _ _ (Nat.ne_of_lt (Heap.lt_size q))]
    exact Heap.get?_push_of_some _ q
  have at_ : (h1.push (seqObj "list" vs.toArray 0)).get? (s.heap.objs.size + 1) = some (seqObj "list" vs.toArray 0) := by
    rw [← sz]; exact Heap.get?_push_size _ rfl
  show wpAny _ _ _ _ _ { s with heap := h1.push (seqObj "list" vs.toArray 0) }
  rw [sz]
  refine wpAny_bind (wpAny_holding (wpAny_call_entry PyProof.Rows.slot_list_sort ⟨_, at_, rfl⟩ PyProof.Rows.entry_list_sort
    (SrtO.list_sort_ord O at_ hz (fun h2 => hS h2 _ _ at_ fun b ob q => ⟨Nat.ne_of_lt (Nat.lt_succ_of_lt (Heap.lt_size q)), Heap.get?_push_of_some _ (kp b ob q)⟩) fun out hs hb => ⟨_, rfl, ?_⟩) (PyProof.Rows.args_list_sort _)))
  have z := h out hs hb
  unfold PyProof.Rows.sortedAll at z
  rw [hH] at z
  exact wpAny_pure ⟨_, rfl, z⟩
end
theorem srt_some {xs ys : List D} (h : srt xs = some ys) : (∃ is : List Int, xs = is.map .int ∧ ys = (is.mergeSort fun a b => decide (a ≤ b)).map .int) ∨ (cmpAll xs = true ∧ ys = xs.mergeSort leD) := by
  unfold srt at h
  cases qi : intsOf xs with
  | some is =>
    rw [qi] at h
    simp only [Option.some.injEq] at h
    exact .inl ⟨is, intsOf_eq qi, h.symm⟩
  | none =>
    rw [qi] at h
    cases qc : cmpAll xs with
    | false => rw [qc] at h; cases h
    | true =>
      rw [qc] at h
      simp only [Option.some.injEq] at h
      exact .inr ⟨rfl, h.symm⟩
theorem rds_int_map {K : PySem.W.Frag} {m : List Addr} {H : Hp} : ∀ is : List Int, RDs K m H (is.map .int) (is.map V.int)
  | [] => by simp only [List.map_nil, RDs]
  | i :: is => by
    simp only [List.map_cons, RDs]
    exact ⟨_, _, rfl, by simp only [RD], rds_int_map is⟩
section
variable {X : Cx} {pins : List (Addr × Obj)} {σ : St} {H : Hp} {s : Shared} {m : List Addr}
theorem srt_go {a : Addr} {xs : List D} {ws : List V} {its : List Value} {Q : VK} (hu : X.A.units + 100 < cLine) (I : Inv X pins σ H s) (rvals : Vals ws its) (hz : ws.length ≤ sizeLine)
    (run : ∀ {ltv : Value → Value → Bool} {Q : Value → Shared → Prop}, SrtO.Swo ltv → (2 ≤ its.length → ∀ (h1 : Heap) (a : Addr), h1.get? a = some (seqObj "list" its.toArray 0) → (∀ b ob, s.heap.get? b = some ob → b ≠ a ∧ h1.get? b = some ob) → SrtO.SortableO X.prog X.w X.A.in1.in1 { s with heap := h1 } a its ltv) →
      (∀ out : List Value, SrtO.Srtd ltv out → SrtO.Stb ltv out its → Q (.ref (s.heap.objs.size + 1)) { s with heap := PyProof.Rows.sortedAll s.heap its out.toArray }) → wpAny (model X.prog X.w) X.A (call (.builtin "sorted") [.ref a]) Q X.xe s)
    (rws : RDs X.K m H xs ws) (qc : cmpAll xs = true)
    (push : ∀ (p : Addr) (zs : List V), H p = none → RDs X.K m H (xs.mergeSort leD) zs → Q (.ref p) (upd H p (.lst zs))) : wpAny (model X.prog X.w) X.A (call (.builtin "sorted") [.ref a]) (EP X pins σ Q) X.xe s := by
  have hall : ∀ d ∈ xs, (keyD d).isSome = true := fun d hd => (Bool.and_eq_true_iff.mp (List.all_eq_true.mp qc d hd)).1
  obtain ⟨hm1, hm2⟩ := map_dOf I rws hall
  obtain ⟨e1, e2⟩ := refs_back rvals fun x hx => (hm2 x hx).2.2
  have kk : ∀ v ∈ its, backV v ∈ ws := fun v hv => by rw [e1]; exact List.mem_map.mpr ⟨v, hv, rfl⟩
  have rel : ∀ v ∈ its, RelV (backV v) v := fun v hv => by
    obtain ⟨b, rfl⟩ := e2 v hv
    rfl
  have key : ∀ v ∈ its, ∃ ky, keyD (dOf X.K m H (backV v)) = some ky := fun v hv => Option.isSome_iff_exists.mp (hall _ (hm2 _ (kk v hv)).2.1)
  refine run (tor_K.swo fun v => kyD (dOf X.K m H (backV v))) (fun h2 h₁ a' ha' kp => ?_) fun out h1 h2 => ?_
  · refine sortable_ky (s := { s with heap := h₁ }) (by show X.A.units + 1 + 1 + 64 < cLine; omega) (by omega) (fun v hv => ?_) (fun v hv => ?_) (fun v hv u hu => ?_) (fun o e => ?_)
    · obtain ⟨ky, ek⟩ := key v hv
      rw [kyD_of ek]
      exact (kyv_of I (hm2 _ (kk v hv)).1 (rel v hv) ek).1.keeps fun c o e _ => (kp c o e).2
    · obtain ⟨ky, ek⟩ := key v hv
      rw [kyD_of ek]
      exact (kyv_of I (hm2 _ (kk v hv)).1 (rel v hv) ek).2.1
    · have z := (Bool.and_eq_true_iff.mp (List.all_eq_true.mp qc _ (hm2 _ (kk v hv)).2.1)).2
      exact List.all_eq_true.mp z _ (hm2 _ (kk u hu)).2.1
    · have e' : some o = some (seqObj "list" its.toArray 0) := e.symm.trans ha'
      cases e'
      intro c
      exact absurd (Value.type.inj c) (by decide)
  · have h3 : ∀ u ∈ out, ∃ a, u = Value.ref a := fun u hu => e2 u (h2.perm.mem_iff.mp hu)
    obtain ⟨ep, he'⟩ := PyProof.Rows.sortedAll_at s.heap its out.toArray
    have pw : (out.map backV).Perm ws := by rw [e1]; exact h2.perm.map _
    have hlen : (out.map backV).length ≤ sizeLine := by rw [pw.length_eq]; exact hz
    have hp : H (s.heap.objs.size + 1) = none := I.hok.fresh (Nat.le_succ _)
    refine ⟨.ref _, upd H (s.heap.objs.size + 1) (.lst (out.map backV)), I.laid (t' := s.toks) (fun _ _ => PyProof.Rows.sortedAll_old) (Nat.le_succ _) ⟨hlen, out, ep, vals_back h3, he'⟩, rfl, push _ _ hp ?_⟩
    have es : (out.map backV).map (dOf X.K m H) = xs.mergeSort leD := by
      refine srt_items qc (by rw [← hm1]; exact pw.map _) ?_
      rw [List.map_map, List.pairwise_map]
      exact h1
    rw [← es]
    exact rds_map fun v hv => (hm2 v (pw.subset hv)).1
end
section
variable {X : Cx}
theorem rds_tup {K : PySem.W.Frag} {m : List Addr} {H : Hp} {S : Sto} {d0 : D} {v : V} {xs : List D} (rs : RS K m S H) (r : RD K m H d0 v) (q : seqOf d0 S = some xs) : ∃ a ws, v = .ref a ∧ RDs K m H xs ws ∧ (SqL K H a ws ∨ SqT K H a ws) := by
  cases d0 with
  | loc n =>
    simp only [RD] at r
    obtain ⟨a, rfl, hm⟩ := r
    obtain ⟨ws, hs, rws⟩ := rs.lst hm q
    exact ⟨a, ws, rfl, rws, .inl hs⟩
  | tup ys =>
    cases q
    simp only [RD] at r
    obtain ⟨a, ws, rfl, hs, rws⟩ := r
    exact ⟨a, ws, rfl, rws, .inr hs⟩
  | _ => cases q
theorem int_go {pins : List (Addr × Obj)} {σ : St} {H : Hp} {s : Shared} {a : Addr} {is : List Int} {Q : VK} (I : Inv X pins σ H s) (hs : SqT X.K H a (is.map V.int)) (q : ∀ (ns : List Int) (p : Addr), ns.Perm is → ns.Pairwise (· ≤ ·) → H p = none → Q (.ref p) (upd H p (.lst (ns.map V.int)))) :
    wpAny (model X.prog X.w) X.A (call (.builtin "sorted") [.ref a]) (EP X pins σ Q) X.xe s := by
  obtain ⟨its, rv, ⟨o, ho, hc, n, hd⟩, hz⟩ := I.tuple hs
  have hi := rv.ints
  refine sorted_tup SrtO.swo_int ho hc hd (by rw [← rv.length]; exact hz) (fun h2 h₁ a' _ _ => SrtO.ints_sortable hi h2) fun out h1 h2 => ?_
  obtain ⟨k1, k2, k3⟩ := SrtO.ints_out hi h1 h2
  obtain ⟨ep, he'⟩ := PyProof.Rows.sortedAll_at s.heap its out.toArray
  have hlen : ((out.map SrtO.iv).map V.int).length ≤ sizeLine := by
    rw [List.length_map] at hz ⊢
    rw [k2.length_eq]; exact hz
  refine ⟨.ref _, upd H (s.heap.objs.size + 1) (.lst ((out.map SrtO.iv).map V.int)), ?_, rfl, q _ _ k2 k3 (I.hok.fresh (Nat.le_succ _))⟩
  exact I.laid (t' := s.toks) (fun _ _ => PyProof.Rows.sortedAll_old) (Nat.le_succ _) ⟨hlen, out, ep, vals_of_ints k1, he'⟩
theorem c_sorted {k : Nat} (hr : Room k X.A) : CallR X (.builtin "sorted") (rFL X.K fSorted) := by
  intro pins s σ H vs us Q I r h
  obtain ⟨m, S, ds, d, S', rs, rd, e, fin⟩ := h
  obtain ⟨d0, xs, ys, rfl, q, q2, rfl, rfl⟩ := fSorted_some e
  simp only [RDs] at rd
  obtain ⟨v, w, rfl, rv, rfl⟩ := rd
  obtain ⟨a, ws, rfl, rws, hs⟩ := rds_tup rs rv q
  have push : ∀ (p : Addr) (zs : List V), H p = none → RDs X.K m H ys zs → Q (.ref p) (upd H p (.lst zs)) := fun p zs hp rz => by
    obtain ⟨x3, rs3, g3⟩ := rs.push (o := .lst ys) (u := .lst zs) hp (fun m' H' x => ⟨zs, rfl, RDs.mono x _ _ rz⟩)
    refine fin _ _ _ x3 rs3 ?_
    simp only [RD]
    exact ⟨p, rfl, g3⟩
  rcases srt_some q2 with ⟨is, rfl, rfl⟩ | ⟨qc, rfl⟩
  · have ew := rds_ints rws
    subst ew
    have fini : ∀ (ns : List Int) (p : Addr), ns.Perm is → ns.Pairwise (· ≤ ·) → H p = none → Q (.ref p) (upd H p (.lst (ns.map V.int))) := fun ns' p pm st hp => push p _ hp (by
      rw [← srt_ints pm st]
      exact rds_int_map ns')
    rcases hs with hs | hs
    · exact cr_sortedI pins s σ H _ us Q I r ⟨a, is, rfl, hs, fini⟩
    · obtain ⟨u, rfl, ru⟩ := vals1 r
      obtain rfl : u = Value.ref a := ru
      exact int_go I hs fini
  · obtain ⟨u, rfl, ru⟩ := vals1 r
    obtain rfl : u = Value.ref a := ru
    have hu := hr.un
    rcases hs with hs | hs
    · obtain ⟨its, rvals, hl, hz⟩ := I.list hs
      exact srt_go (by omega) I rvals hz (fun O hS h => SrtO.sorted_ord O hl.isList (by rw [← rvals.length]; exact hz) hS h) rws qc push
    · obtain ⟨its, rvals, ⟨o, ho, hc, n, hd⟩, hz⟩ := I.tuple hs
      exact srt_go (by omega) I rvals hz (fun O hS h => sorted_tup O ho hc hd (by rw [← rvals.length]; exact hz) hS h) rws qc push
end
end L2.Z

set_option Elab.async false
set_option linter.all false
set_option maxRecDepth 100000
set_option maxHeartbeats 4000000
/-! ZD: dict of pairs with tuple keys; sorted of it. -/
namespace L2.Z
open PySem PySem.Spec PyProof.Rows
theorem dt_ok {P : Program} {w : World} {H : Hp} {h : Heap} (ok : HOk P w H h) {a a0 : Addr} {ob : Obj} (e : H a = some (.frz ob (.ext (dtAt a0 ob)))) : h.get? a = some ob ∧ (a == sysModules) = false := by
  obtain ⟨h1, ⟨h2, h3⟩, _, h4⟩ := (show ObjOk P w H h a (.frz ob (.ext (dtAt a0 ob))) from ok a _ e)
  refine ⟨h1, ?_⟩
  by_cases z : a = a0
  · rw [z]; exact h2
  · have q := (h4 h (h.update a0 fun _ => ⟨.none, none, .freed, #[]⟩) ⟨h2, h3⟩ fun o g => by
      rw [Heap.get?_update_ne _ _ _ _ z]; exact g).2
    exfalso
    have hlt : a0 < h.objs.size := Heap.lt_size h3
    have g : (h.update a0 fun _ => ⟨.none, none, .freed, #[]⟩).objs[a0]? = some ⟨.none, none, .freed, #[]⟩ := by
      unfold Heap.update
      rw [Array.getElem?_modify, if_pos rfl, Array.getElem?_eq_getElem hlt]; rfl
    unfold Heap.get? at q
    rw [g] at q
    cases q
section
variable {prog : Program} {w : World} {A : Around} {E : Value → Shared → Prop} {s : Shared}
theorem sorted_raw {d : Addr} {o : Obj} {es : Array DictEntry} {ep0 : Nat} {ltv : Value → Value → Bool} {its : List Value} {Q : Value → Shared → Prop} (hh : A.handled = none) (O : SrtO.Swo ltv) (lo : (d == sysModules) = false) (hx : o.ExactDict) (hd : o.data = .dict es ep0) (ho : s.heap.get? d = some o)
    (hits : es.toList.map (·.key) = its) (hz : its.length ≤ sizeLine)
    (hS : 2 ≤ its.length → ∀ (h1 : Heap) (tk : Nat) (a : Addr), h1.get? a = some (seqObj "list" its.toArray 0) → (∀ b ob, s.heap.get? b = some ob → b ≠ a ∧ h1.get? b = some ob) → SrtO.SortableO prog w A.in1.in1 { s with heap := h1, toks := tk } a its ltv)
    (h : ∀ (out : List Value) (h2 : Heap) (tk p ep : Nat), SrtO.Srtd ltv out → SrtO.Stb ltv out its → ∀ h1 : Heap, (∀ b ob, s.heap.get? b = some ob → h1.get? b = some ob) → (∀ b ob, h1.get? b = some ob → h2.get? b = some ob) → h1.objs.size ≤ p → h2.get? p = some (seqObj "list" out.toArray ep) → Q (.ref p) { s with heap := h2, toks := tk }) : wpAny (model prog w) A (call (.builtin "sorted") [.ref d]) Q E s := by
  have hsz : es.size = its.length := by rw [← hits, List.length_map, Array.length_toList]
  refine Calls.call_function_entry PyProof.Rows.kind_sorted PyProof.Rows.plain_sorted PyProof.Rows.entry_sorted (PyProof.Rows.args_sorted1 _) ?_
  unfold Builtin.«sorted»
  refine wpAny_bind (m := checkCount "sorted" 1 1 _) (wpAny_pure (wpAny_bind (PySem.W.kdu_collect (A := A.in1) (kdl_raw lo hx hd) hh ho (by rw [hsz]; exact hz) fun h' tk acc kp hacc => ?_)))
  have ea : acc.toList = its := by
    have hl : acc.toList.length = its.length := by rw [Array.length_toList, hacc.1, hsz]
    refine List.ext_getElem? fun j => ?_
    cases q : acc.toList[j]? with
    | none =>
      have := List.getElem?_eq_none_iff.mp q
      rw [List.getElem?_eq_none (by omega)]
    | some v =>
      obtain ⟨en, e1, e2⟩ := hacc.2 j v (by rw [← Array.getElem?_toList]; exact q)
      rw [← hits, List.getElem?_map, Array.getElem?_toList, e1, e2]; rfl
  rw [ea]
  refine wpAny_bind (wpAny_newList ?_ hz)
  have at_ : (h'.push (seqObj "list" its.toArray 0)).get? h'.objs.size = some (seqObj "list" its.toArray 0) := Heap.get?_push_size _ rfl
  have kp2 : ∀ b ob, s.heap.get? b = some ob → b ≠ h'.objs.size ∧ (h'.push (seqObj "list" its.toArray 0)).get? b = some ob := fun b ob q => ⟨Nat.ne_of_lt (Heap.lt_size (kp b ob q)), Heap.get?_push_of_some _ (kp b ob q)⟩
  show wpAny _ _ _ _ _ { s with heap := h'.push (seqObj "list" its.toArray 0), toks := tk }
  refine wpAny_bind (wpAny_holding (wpAny_call_entry PyProof.Rows.slot_list_sort ⟨_, at_, rfl⟩ PyProof.Rows.entry_list_sort
    (SrtO.list_sort_ord (s := { s with heap := h'.push (seqObj "list" its.toArray 0), toks := tk }) O at_ hz (fun h2 => hS h2 _ _ _ at_ kp2) fun out hs hb => ⟨_, rfl, ?_⟩) (PyProof.Rows.args_list_sort _)))
  obtain ⟨e', he'⟩ := PyProof.Rows.sortedHeap_at (vs := its) (out := out.toArray) at_
  refine wpAny_pure ⟨_, rfl, h out _ tk _ e' hs hb h' kp (fun b ob q => ?_) (Nat.le_refl _) he'⟩
  have hb' : b < h'.objs.size := Heap.lt_size q
  rw [PyProof.Rows.sortedHeap_old (Nat.ne_of_lt hb') (by rw [PyProof.Rows.size_push']; exact Nat.lt_succ_of_lt hb')]
  exact Heap.get?_push_of_some _ q
end
variable [HasT]
section
variable {X : Cx} {pins : List (Addr × Obj)} {σ : St} {H : Hp} {s : Shared} {m : List Addr}
theorem srt_goG {a : Addr} {xs : List D} {ws : List V} {its : List Value} {Q : VK} (hu : X.A.units + 100 < cLine) (I : Inv X pins σ H s) (rvals : Vals ws its) (hz : ws.length ≤ sizeLine)
    (run : ∀ {ltv : Value → Value → Bool} {Q : Value → Shared → Prop}, SrtO.Swo ltv → (2 ≤ its.length → ∀ (h1 : Heap) (tk : Nat) (a : Addr), h1.get? a = some (seqObj "list" its.toArray 0) → (∀ b ob, s.heap.get? b = some ob → b ≠ a ∧ h1.get? b = some ob) → SrtO.SortableO X.prog X.w X.A.in1.in1 { s with heap := h1, toks := tk } a its ltv) →
      (∀ (out : List Value) (h2 : Heap) (tk p ep : Nat), SrtO.Srtd ltv out → SrtO.Stb ltv out its → ∀ h1 : Heap, (∀ b ob, s.heap.get? b = some ob → h1.get? b = some ob) → (∀ b ob, h1.get? b = some ob → h2.get? b = some ob) → h1.objs.size ≤ p → h2.get? p = some (seqObj "list" out.toArray ep) → Q (.ref p) { s with heap := h2, toks := tk }) → wpAny (model X.prog X.w) X.A (call (.builtin "sorted") [.ref a]) Q X.xe s)
    (rws : RDs X.K m H xs ws) (qc : cmpAll xs = true)
    (push : ∀ (p : Addr) (zs : List V), H p = none → RDs X.K m H (xs.mergeSort leD) zs → Q (.ref p) (upd H p (.lst zs))) : wpAny (model X.prog X.w) X.A (call (.builtin "sorted") [.ref a]) (EP X pins σ Q) X.xe s := by
  have hall : ∀ d ∈ xs, (keyD d).isSome = true := fun d hd => (Bool.and_eq_true_iff.mp (List.all_eq_true.mp qc d hd)).1
  obtain ⟨hm1, hm2⟩ := map_dOf I rws hall
  obtain ⟨e1, e2⟩ := refs_back rvals fun x hx => (hm2 x hx).2.2
  have kk : ∀ v ∈ its, backV v ∈ ws := fun v hv => by rw [e1]; exact List.mem_map.mpr ⟨v, hv, rfl⟩
  have rel : ∀ v ∈ its, RelV (backV v) v := fun v hv => by
    obtain ⟨b, rfl⟩ := e2 v hv
    rfl
  have key : ∀ v ∈ its, ∃ ky, keyD (dOf X.K m H (backV v)) = some ky := fun v hv => Option.isSome_iff_exists.mp (hall _ (hm2 _ (kk v hv)).2.1)
  refine run (tor_K.swo fun v => kyD (dOf X.K m H (backV v))) (fun h2 h₁ tk a' ha' kp => ?_) fun out hh tk p ep h1 h2 hm kq kp hpz he' => ?_
  · refine sortable_ky (s := { s with heap := h₁, toks := tk }) (by show X.A.units + 1 + 1 + 64 < cLine; omega) (by omega) (fun v hv => ?_) (fun v hv => ?_) (fun v hv u hu => ?_) (fun o e => ?_)
    · obtain ⟨ky, ek⟩ := key v hv
      rw [kyD_of ek]
      exact (kyv_of I (hm2 _ (kk v hv)).1 (rel v hv) ek).1.keeps fun c o e _ => (kp c o e).2
    · obtain ⟨ky, ek⟩ := key v hv
      rw [kyD_of ek]
      exact (kyv_of I (hm2 _ (kk v hv)).1 (rel v hv) ek).2.1
    · have z := (Bool.and_eq_true_iff.mp (List.all_eq_true.mp qc _ (hm2 _ (kk v hv)).2.1)).2
      exact List.all_eq_true.mp z _ (hm2 _ (kk u hu)).2.1
    · have e' : some o = some (seqObj "list" its.toArray 0) := e.symm.trans ha'
      cases e'
      intro c
      exact absurd (Value.type.inj c) (by decide)
  · have h3 : ∀ u ∈ out, ∃ a, u = Value.ref a := fun u hu => e2 u (h2.perm.mem_iff.mp hu)
    have pw : (out.map backV).Perm ws := by rw [e1]; exact h2.perm.map _
    have hlen : (out.map backV).length ≤ sizeLine := by rw [pw.length_eq]; exact hz
    have I1 : Inv X pins σ H { s with heap := hm, toks := tk } := I.kept kq
    have hp : H p = none := I1.hok.fresh hpz
    refine ⟨.ref _, upd H p (.lst (out.map backV)), I1.laid (t' := tk) kp hpz ⟨hlen, out, ep, vals_back h3, he'⟩, rfl, push _ _ hp ?_⟩
    have es : (out.map backV).map (dOf X.K m H) = xs.mergeSort leD := by
      refine srt_items qc (by rw [← hm1]; exact pw.map _) ?_
      rw [List.map_map, List.pairwise_map]
      exact h1
    rw [← es]
    exact rds_map fun v hv => (hm2 v (pw.subset hv)).1
end
def kD : Key → D
  | .inl i => .int i
  | .inr x => .str x
def keysT (kvs : List (List Key × D)) : List D := kvs.map fun kv => .tup (kv.1.map kD)
@[irreducible] def fSortD : FL := fun ds S => match ds with
  | [.loc n] => match S.get n with
    | some (.dT kvs) => if kvs.length ≤ 100000 then (srt (keysT kvs)).map fun ys => (.loc S.n, S.push (.lst ys)) else none
    | _ => fSorted [.loc n] S
  | ds => fSorted ds S
theorem rds_kD {K : PySem.W.Frag} {m : List Addr} {H : Hp} : ∀ ks : List Key, RDs K m H (ks.map kD) (ks.map kV)
  | [] => by simp only [List.map_nil, RDs]
  | .inl i :: ks => by
    simp only [List.map_cons, RDs]
    exact ⟨_, _, rfl, by simp only [kD, kV, RD], rds_kD ks⟩
  | .inr x :: ks => by
    simp only [List.map_cons, RDs]
    exact ⟨_, _, rfl, by simp only [kD, kV, RD], rds_kD ks⟩
theorem rds_kV {K : PySem.W.Frag} {m : List Addr} {H : Hp} : ∀ {ks : List Key} {vs : List V}, RDs K m H (ks.map kD) vs → vs = ks.map kV
  | [], vs, h => by simpa only [List.map_nil, RDs] using h
  | .inl i :: ks, vs, h => by
    simp only [List.map_cons, RDs, kD, RD] at h
    obtain ⟨v, r, rfl, rfl, rr⟩ := h
    rw [rds_kV rr]; rfl
  | .inr x :: ks, vs, h => by
    simp only [List.map_cons, RDs, kD, RD] at h
    obtain ⟨v, r, rfl, rfl, rr⟩ := h
    rw [rds_kV rr]; rfl
theorem keys_back {K : PySem.W.Frag} {m : List Addr} {H : Hp} : ∀ {kvs : List (List Key × D)} {es : List DictEntry}, RTs K m H kvs es → ∃ bs : List Addr, es.map (·.key) = bs.map Value.ref ∧ RDs K m H (keysT kvs) (bs.map V.ref)
  | [], es, h => by
    simp only [RTs] at h
    subst h
    exact ⟨[], rfl, by simp only [keysT, List.map_nil, RDs]⟩
  | kv :: kvs, es, h => by
    simp only [RTs] at h
    obtain ⟨e, r, b, v, rfl, h2, h3, h4, h5, t⟩ := h
    obtain ⟨bs, e1, e2⟩ := keys_back t
    refine ⟨b :: bs, by simp only [List.map_cons, h2, e1], ?_⟩
    simp only [keysT, List.map_cons, RDs] at e2 ⊢
    refine ⟨_, _, rfl, ?_, e2⟩
    simp only [RD]
    exact ⟨b, _, rfl, h3, rds_kD kv.1⟩
section
variable {X : Cx}
theorem c_sortedD {k : Nat} (hr : Room k X.A) (hc : X.calm = true) : CallR X (.builtin "sorted") (rFL X.K fSortD) := by
  intro pins s σ H vs us Q I r h
  obtain ⟨m, S, ds, d, S', rs, rd, e, fin⟩ := h
  unfold fSortD at e
  split at e
  · rename_i n
    split at e
    · rename_i kvs eg
      split at e
      · rename_i hl
        cases q : srt (keysT kvs) with
        | none => rw [q] at e; cases e
        | some ys =>
          rw [q] at e
          simp only [Option.map_some, Option.some.injEq, Prod.mk.injEq] at e
          obtain ⟨rfl, rfl⟩ := e
          simp only [RDs, RD] at rd
          obtain ⟨v, w, rfl, ⟨a, rfl, hm⟩, rfl⟩ := rd
          obtain ⟨a0, ob, es, ep, ha, hx, hdat, rt⟩ := rs.obj hm eg
          obtain ⟨hget, hns⟩ := dt_ok I.hok ha
          obtain ⟨bs, e1, e2⟩ := keys_back rt
          obtain ⟨u, rfl, ru⟩ := vals1 r
          obtain rfl : u = Value.ref a := ru
          have push : ∀ (p : Addr) (zs : List V), H p = none → RDs X.K m H ys zs → Q (.ref p) (upd H p (.lst zs)) := fun p zs hp rz => by
            obtain ⟨x3, rs3, g3⟩ := rs.push (o := .lst ys) (u := .lst zs) hp (fun m' H' x => ⟨zs, rfl, RDs.mono x _ _ rz⟩)
            refine fin _ _ _ x3 rs3 ?_
            simp only [RD]
            exact ⟨p, rfl, g3⟩
          have hlen : bs.length = kvs.length := by
            have := e2.length
            simpa [keysT] using this.symm
          have hz : bs.length ≤ sizeLine := by rw [hlen, sizeLine_eq]; omega
          have hu := hr.un
          have go : cmpAll (keysT kvs) = true → ys = (keysT kvs).mergeSort leD → wpAny (model X.prog X.w) X.A (call (.builtin "sorted") [.ref a]) (EP X pins σ Q) X.xe s := fun qc ey => by
            subst ey
            exact srt_goG (by omega) I (vals_refs bs) (by rw [List.length_map]; exact hz) (fun O hS h => sorted_raw (I.ok.hd hc) O hns hx hdat hget e1 (by rw [List.length_map]; exact hz) hS h) e2 qc push
          rcases srt_some q with ⟨is, hk, rfl⟩ | ⟨qc, rfl⟩
          · cases kvs with
            | nil =>
              cases is with
              | nil => exact go rfl (by simp [keysT])
              | cons _ _ => cases hk
            | cons kv kvs =>
              cases is with
              | nil => cases hk
              | cons _ _ => simp [keysT] at hk
          · exact go qc rfl
      · cases e
    · exact c_sorted hr pins s σ H vs us Q I r ⟨m, S, _, d, S', rs, rd, e, fin⟩
  · exact c_sorted hr pins s σ H vs us Q I r ⟨m, S, _, d, S', rs, rd, e, fin⟩
end
/-! ### dict of pairs -/
def tkOf : D → Option Key
  | .int i => some (.inl i)
  | .str x => some (.inr x)
  | _ => none
def tksOf : List D → Option (List Key)
  | [] => some []
  | d :: ds => match tkOf d, tksOf ds with
    | some k, some ks => some (k :: ks)
    | _, _ => none
def pairD : D → Option (List Key × D)
  | .tup [.tup ks, d] => (tksOf ks).map fun k => (k, d)
  | _ => none
def pairsD : List D → Option (List (List Key × D))
  | [] => some []
  | d :: ds => match pairD d, pairsD ds with
    | some k, some ks => some (k :: ks)
    | _, _ => none
def putT (acc : List (List Key × D)) (kv : List Key × D) : List (List Key × D) :=
  if (acc.any fun x => decide (x.1 = kv.1)) = true then acc.map (fun x => if x.1 = kv.1 then (x.1, kv.2) else x) else acc ++ [kv]
@[irreducible] def fDictP : FL := fun ds S => match ds with
  | [.loc n] => match lstAt S n with
    | some xs => match pairsD xs with
      | some kvs => if xs.length ≤ 100000 then some (.loc S.n, S.push (.dT (kvs.foldl putT []))) else none
      | none => none
    | none => none
  | _ => none
theorem tkOf_eq {d : D} {k : Key} (h : tkOf d = some k) : d = kD k := by
  cases d <;> cases h <;> rfl
theorem tksOf_eq : ∀ {ds : List D} {ks : List Key}, tksOf ds = some ks → ds = ks.map kD
  | [], ks, h => by cases h; rfl
  | d :: ds, ks, h => by
    simp only [tksOf] at h
    split at h
    · rename_i k ks' h1 h2
      cases h
      rw [List.map_cons, tkOf_eq h1, tksOf_eq h2]
    · cases h
abbrev PT (K : PySem.W.Frag) (m : List Addr) (H : Hp) : List (List Key × D) → List (List Key × Addr × Value) → Prop :=
  Paired fun p q => p.1 = q.1 ∧ SqT K H q.2.1 (p.1.map kV) ∧ ∃ v, RelV v q.2.2 ∧ RD K m H p.2 v
section
variable {K : PySem.W.Frag} {m : List Addr} {H : Hp}
theorem PT.any {kvs : List (List Key × D)} {xs : List (List Key × Addr × Value)} (r : PT K m H kvs xs) (k : List Key) : (kvs.any fun x => decide (x.1 = k)) = (atKey xs k).isSome := by
  induction r with
  | nil => rfl
  | @cons p q ps qs h t ih =>
    obtain ⟨h1, _, _⟩ := h
    by_cases e : p.1 = k
    · have e' : q.1 = k := h1.symm.trans e
      simp [atKey, List.find?_cons, e', e]
    · have e' : ¬ q.1 = k := fun z => e (h1.trans z)
      have b : atKey (q :: qs) k = atKey qs k := by simp [atKey, List.find?_cons, e']
      rw [b, ← ih]
      simp [e]
theorem PT.repl {kvs : List (List Key × D)} {xs : List (List Key × Addr × Value)} (r : PT K m H kvs xs) (k : List Key) {d : D} {y : V} {u : Value} (ry : RelV y u) (rd : RD K m H d y) :
    PT K m H (kvs.map fun x => if x.1 = k then (x.1, d) else x) (xs.map (putAt k u)) := by
  induction r with
  | nil => exact .nil
  | @cons p q ps qs h t ih =>
    rw [List.map_cons, List.map_cons]
    refine .cons ?_ ih
    obtain ⟨h1, h2, h3⟩ := h
    unfold putAt
    by_cases e : p.1 = k
    · rw [if_pos e, if_pos (h1.symm.trans e)]; exact ⟨h1, h2, y, ry, rd⟩
    · rw [if_neg e, if_neg (fun z => e (h1.trans z))]; exact ⟨h1, h2, h3⟩
theorem PT.put {kvs : List (List Key × D)} {xs : List (List Key × Addr × Value)} (r : PT K m H kvs xs) {kd : List Key × D} {x : List Key × Addr × Value} (h : kd.1 = x.1 ∧ SqT K H x.2.1 (kd.1.map kV) ∧ ∃ v, RelV v x.2.2 ∧ RD K m H kd.2 v) :
    PT K m H (putT kvs kd) (storedH xs x.1 x.2.1 x.2.2) := by
  unfold putT storedH
  rw [r.any, ← h.1]
  obtain ⟨v, rv, rd⟩ := h.2.2
  by_cases q : (atKey xs kd.1).isSome = true
  · rw [if_pos q, if_pos q]; exact r.repl _ rv rd
  · rw [if_neg q, if_neg q]; exact Paired.snoc r ⟨rfl, h.2.1, v, rv, rd⟩
theorem PT.all : ∀ {more : List (List Key × D)} {ps : List (List Key × Addr × Value)} {kvs : List (List Key × D)} {xs : List (List Key × Addr × Value)}, PT K m H more ps → PT K m H kvs xs → PT K m H (more.foldl putT kvs) (storedAllH xs ps) := by
  intro more ps kvs xs r
  induction r generalizing kvs xs with
  | nil => exact fun q => q
  | cons h t ih =>
    intro q
    exact ih (q.put h)
theorem PT.rts {prog : Program} {w : World} {knd : HeapKind prog w (List Key)} {kvs : List (List Key × D)} {xs : List (List Key × Addr × Value)} (r : PT K m H kvs xs) : RTs K m H kvs (xs.map (entryOfKey knd)) := by
  induction r with
  | nil => simp only [List.map_nil, RTs]
  | cons h t ih =>
    obtain ⟨h1, h2, v, h3, h4⟩ := h
    simp only [List.map_cons, RTs]
    exact ⟨_, _, _, v, rfl, rfl, h2, h3, h4, ih⟩
end
section
variable {X : Cx} {pins : List (Addr × Obj)} {σ : St} {H : Hp} {s : Shared} {m : List Addr}
theorem pairsD_at (I : Inv X pins σ H s) : ∀ {xs : List D} {kvs : List (List Key × D)} {ws : List V}, pairsD xs = some kvs → RDs X.K m H xs ws →
    ∃ (Ts : List Addr) (ps : List (List Key × Addr × Value)), ws = Ts.map V.ref ∧ Ts.length = ps.length ∧ PT X.K m H kvs ps ∧ ∀ (j : Nat) (T : Addr) (x : List Key × Addr × Value), Ts[j]? = some T → ps[j]? = some x → IsTup s.heap T #[.ref x.2.1, x.2.2]
  | [], kvs, ws, h, r => by
    cases h
    simp only [RDs] at r
    subst r
    exact ⟨[], [], rfl, rfl, .nil, fun j T x e => by simp at e⟩
  | d :: ds, kvs, ws, h, r => by
    simp only [pairsD] at h
    split at h
    · rename_i kd r2 h1 h2
      cases h
      simp only [RDs] at r
      obtain ⟨v, w, rfl, rd, rr⟩ := r
      obtain ⟨Ts, ps, rfl, hl, pt, ha⟩ := pairsD_at I h2 rr
      unfold pairD at h1
      split at h1
      · rename_i ks d
        cases q : tksOf ks with
        | none => rw [q] at h1; cases h1
        | some kk =>
          rw [q] at h1
          cases h1
          have ek := tksOf_eq q
          simp only [RD, RDs] at rd
          obtain ⟨T, vs, rfl, hs, v1, r1, rfl, ⟨b, us, rfl, hb, ru⟩, v2, r3, rfl, rv2, rfl⟩ := rd
          rw [ek] at ru
          have eu : us = kk.map kV := rds_kV ru
          subst eu
          obtain ⟨its, rv, ht, _⟩ := I.tuple hs
          obtain ⟨u, y, ei, ru1, ry⟩ := vals2 rv
          subst ei
          obtain rfl : u = Value.ref b := ru1
          refine ⟨T :: Ts, (kk, b, y) :: ps, rfl, by simp [hl], .cons ⟨rfl, hb, v2, ry, rv2⟩ pt, fun j T' x e1 e2 => ?_⟩
          cases j with
          | zero => cases e1; cases e2; exact ht
          | succ j => exact ha j T' x (by simpa using e1) (by simpa using e2)
      · cases h1
    · cases h
end
section
variable {X : Cx}
theorem PT.keys {pins : List (Addr × Obj)} {σ : St} {H : Hp} {s : Shared} {m : List Addr} (I : Inv X pins σ H s) {h' : Heap} (kp : ∀ b o, b ≠ s.heap.objs.size → s.heap.get? b = some o → h'.get? b = some o) {kvs : List (List Key × D)} {ps : List (List Key × Addr × Value)} (r : PT X.K m H kvs ps) :
    ∀ x ∈ ps, (tupleKind (mixKind X.prog X.w)).is h' x.1 x.2.1 := by
  induction r with
  | nil => intro x hx; exact nomatch hx
  | @cons p q ps qs h t ih =>
    intro x hx
    rcases List.mem_cons.mp hx with e | hx
    · subst e
      obtain ⟨h1, h2, _⟩ := h
      rw [h1] at h2
      obtain ⟨its, rv, ⟨o, g1, g2, n, g3⟩, _⟩ := I.tuple h2
      exact ⟨o, its.toArray, n, kp _ _ (Nat.ne_of_lt (Heap.lt_size g1)) g1, g2, g3, by simpa using items_are rv⟩
    · exact ih x hx
theorem putT_length (kvs : List (List Key × D)) (acc : List (List Key × D)) : (kvs.foldl putT acc).length ≤ acc.length + kvs.length := by
  induction kvs generalizing acc with
  | nil => exact Nat.le_refl _
  | cons k r ih =>
    have h := ih (putT acc k)
    have h2 : (putT acc k).length ≤ acc.length + 1 := by
      unfold putT
      split
      · rw [List.length_map]; omega
      · rw [List.length_append, List.length_singleton]; omega
    rw [List.foldl_cons, List.length_cons]
    omega
theorem c_dictP {k : Nat} (hr : Room k X.A) (hc : X.calm = true) : CallR X (.type "dict") (rFL X.K fDictP) := by
  intro pins s σ H vs us Q I r h
  obtain ⟨m, S, ds, d, S', rs, rd, e, fin⟩ := h
  unfold fDictP at e
  split at e
  · rename_i n
    split at e
    · rename_i xs eg
      split at e
      · rename_i kvs ep
        split at e
        · rename_i hl
          cases e
          simp only [RDs, RD] at rd
          obtain ⟨v, w, rfl, ⟨a, rfl, hm⟩, rfl⟩ := rd
          obtain ⟨ws, ha, rws⟩ := rs.lst hm eg
          obtain ⟨Ts, ps, rfl, hTl, pt, hat⟩ := pairsD_at I ep rws
          obtain ⟨u, rfl, ru⟩ := vals1 r
          obtain rfl : u = Value.ref a := ru
          obtain ⟨its, rv, pl, hz⟩ := I.list ha
          have ei := refs_at rv
          subst ei
          rw [List.length_map] at hz
          obtain ⟨o, n0, ho, hcl, hd, hdat⟩ := pl
          have hu := hr.un
          have P := PairArg.list (prog := X.prog) (w := X.w) a (Ts.map Value.ref).toArray (fun j => Ts.getD j 0) (ps.map fun x => (Value.ref x.2.1, x.2.2))
          refine call_dict_pairsH (knd := tupleKind (mixKind X.prog X.w)) (ps := ps) P (I.ok.hd hc) (by show X.A.units + 1 + 1 < cLine; omega) ⟨⟨o, n0, ho, hcl, hd, hdat⟩, by simp [hTl], fun j k' v' e => ?_⟩ ⟨by simp, fun i key v' e => ?_⟩ (fun h' kp x hx => ?_) (by rw [List.length_map, ← hTl]; exact hz) fun h' tk hd' kp => ?_
          · rw [List.getElem?_map] at e
            cases q : ps[j]? with
            | none => rw [q] at e; cases e
            | some x =>
              rw [q] at e
              cases e
              have hj : j < Ts.length := by rw [hTl]; exact (List.getElem?_eq_some_iff.mp q).1
              have hT : Ts[j]? = some Ts[j] := List.getElem?_eq_getElem hj
              have hg : Ts.getD j 0 = Ts[j] := by rw [List.getD_eq_getElem?_getD, hT]; rfl
              show (Ts.map Value.ref).toArray[j]? = some (Value.ref (Ts.getD j 0)) ∧ PairAt s.heap (Ts.getD j 0) (Value.ref x.2.1) x.2.2
              rw [hg]
              exact ⟨by simp [hT], .inl (hat j _ x hT q)⟩
          · have e' : (ps.map fun x => (Value.ref x.2.1, x.2.2))[i]? = some (key, v') := e
            rw [List.getElem?_map] at e'
            cases q : ps[i]? with
            | none => rw [q] at e'; cases e'
            | some x =>
              rw [q] at e'
              cases e'
              exact ⟨x.1, x.2.1, rfl, rfl⟩
          · exact pt.keys I (fun b o h1 h2 => kp b o h1 (by simp) h2) x hx
          · have hm' : (s.heap.objs.size == sysModules) = false := beq_eq_false_iff_ne.mpr (Nat.ne_of_gt I.big)
            obtain ⟨ob, es, ep', g1, g2, g3, g4, g5, g6⟩ := hd'
            have hp : H s.heap.objs.size = none := I.hok.fresh (Nat.le_refl _)
            have fr : ∀ h2 : Heap, h2.get? s.heap.objs.size = some ob → True := fun _ _ => trivial
            have ok : ObjOk X.prog X.w (upd H s.heap.objs.size (.frz ob (.ext (dtAt s.heap.objs.size ob)))) h' s.heap.objs.size (.frz ob (.ext (dtAt s.heap.objs.size ob))) :=
              ⟨g1, ⟨hm', g1⟩, ⟨ob, g1⟩, fun h1 h2 q z => ⟨q.1, z ob q.2⟩⟩
            have pt2 := PT.all pt (.nil : PT X.K m H [] [])
            have rt : RTs X.K m H (kvs.foldl putT []) es.toList := by rw [g4]; exact pt2.rts
            obtain ⟨x3, rs3, g⟩ := rs.push (o := .dT (kvs.foldl putT [])) (u := .frz ob (.ext (dtAt s.heap.objs.size ob))) hp (fun m' H' x => ⟨_, ob, es, ep', rfl, g2, g3, RTs.mono x _ _ rt⟩)
            refine ⟨.ref s.heap.objs.size, upd H s.heap.objs.size _, I.laid (t' := tk) (fun b o e => kp b o (by simp) e) (Nat.le_refl _) ok, rfl, fin _ _ _ x3 rs3 ?_⟩
            simp only [RD]
            exact ⟨_, rfl, g⟩
        · cases e
      · cases e
    · cases e
  · cases e
end
/-! ### tuple(range(..)), list(range(..)) -/
def rgD (a b : Int) : List D := (List.range (b - a).toNat).map fun i => D.int (a + (i : Nat))
def fRgT (i j : Int) (S : Sto) : Option (D × Sto) := if -100000 ≤ i ∧ i ≤ 100000 ∧ -100000 ≤ j ∧ j ≤ 100000 then some (.tup (rgD i j), S) else none
def fRgL (i j : Int) (S : Sto) : Option (D × Sto) := if -100000 ≤ i ∧ i ≤ 100000 ∧ -100000 ≤ j ∧ j ≤ 100000 then some (.loc S.n, S.push (.lst (rgD i j))) else none
@[irreducible] def fTupR1 : F1 := fun x S => match x with
  | .int n => fRgT 0 n S
  | _ => none
@[irreducible] def fTupR2 : F2 := fun x y S => match x, y with
  | .int i, .int j => fRgT i j S
  | _, _ => none
@[irreducible] def fLstR1 : F1 := fun x S => match x with
  | .int n => fRgL 0 n S
  | _ => none
@[irreducible] def fLstR2 : F2 := fun x y S => match x, y with
  | .int i, .int j => fRgL i j S
  | _, _ => none
section
variable {X : Cx} {a b : Expr} {f g : Env → M D} {p p' pos pos' : Pos}
theorem rds_rg {K : PySem.W.Frag} {m : List Addr} {H : Hp} (i : Int) : ∀ l : List Nat, RDs K m H (l.map fun k => D.int (i + (k : Nat))) (l.map fun k => V.int (i + (k : Nat)))
  | [] => by simp only [List.map_nil, RDs]
  | k :: l => by
    simp only [List.map_cons, RDs]
    exact ⟨_, _, rfl, by simp only [RD], rds_rg i l⟩
theorem rgT_fin {K : PySem.W.Frag} {m : List Addr} {S S' : Sto} {H : Hp} {i j : Int} {d : D} {Q : VK} (rs : RS K m S H) (e : fRgT i j S = some (d, S')) (fin : ∀ m' H' v, Ext m H m' H' → RS K m' S' H' → RD K m' H' d v → Q v H') :
    RgOk i j ∧ ∀ q, H q = none → Q (.ref q) (upd H q (.tup (rgV i j))) := by
  unfold fRgT at e
  split at e
  · rename_i hb
    cases e
    refine ⟨⟨by omega, by omega, by omega, by omega, by omega⟩, fun q hq => ?_⟩
    exact fin m _ _ (.new hq) (rs.new hq) (RD.newTup hq (rds_rg i _))
  · cases e
theorem rgL_fin {K : PySem.W.Frag} {m : List Addr} {S S' : Sto} {H : Hp} {i j : Int} {d : D} {Q : VK} (rs : RS K m S H) (e : fRgL i j S = some (d, S')) (fin : ∀ m' H' v, Ext m H m' H' → RS K m' S' H' → RD K m' H' d v → Q v H') :
    RgOk i j ∧ ∀ q, H q = none → Q (.ref q) (upd H q (.lst (rgV i j))) := by
  unfold fRgL at e
  split at e
  · rename_i hb
    cases e
    refine ⟨⟨by omega, by omega, by omega, by omega, by omega⟩, fun q hq => ?_⟩
    obtain ⟨x3, rs3, g3⟩ := rs.push (o := .lst (rgD i j)) (u := .lst (rgV i j)) hq (fun m' H' x => ⟨_, rfl, rds_rg i _⟩)
    refine fin _ _ _ x3 rs3 ?_
    simp only [RD]
    exact ⟨q, rfl, g3⟩
  · cases e
theorem q_tupR2 (hc : X.calm = true) (hm : X.mg "tuple" = none) (hm' : X.mg "range" = none) (ha : QE X a f) (hb : QE X b g) (hg : glB X.env.scope "tuple" = true := by kernel_rfl) (hg' : glB X.env.scope "range" = true := by kernel_rfl)
    (sa : PySem.W.isStarred a = false := by rfl) (sb : PySem.W.isStarred b = false := by rfl) : QE X (.Call (.Name "tuple" p) [.Call (.Name "range" p') [a, b] [] pos'] [] pos) (e2 fTupR2 f g) := ⟨fun W tk m S σ σv H P rs re q => by
  refine wE.of (pe_tupRg hc (glB_ok hg).1 hm (prg_2 (glB_ok hg').1 hm' (pw a) (pw b) (star1 sa) (star1 sb) (star2 (by simp [sb]))) (star1 rfl)) ?_
  refine (two ha hb tk rs re q).mono fun x H1 q1 => q1.mono fun y H2 q2 => ?_
  obtain ⟨m, S, d1, d2, d, S', rs, r1, r2, e, fin⟩ := q2
  unfold fTupR2 at e
  split at e
  · rename_i i j
    simp only [RD] at r1 r2
    exact ⟨i, j, r1, r2, rgT_fin rs e fin⟩
  · cases e⟩
theorem q_lstR2 (hc : X.calm = true) (hm : X.mg "list" = none) (hm' : X.mg "range" = none) (ha : QE X a f) (hb : QE X b g) (hg : glB X.env.scope "list" = true := by kernel_rfl) (hg' : glB X.env.scope "range" = true := by kernel_rfl)
    (sa : PySem.W.isStarred a = false := by rfl) (sb : PySem.W.isStarred b = false := by rfl) : QE X (.Call (.Name "list" p) [.Call (.Name "range" p') [a, b] [] pos'] [] pos) (e2 fLstR2 f g) := ⟨fun W tk m S σ σv H P rs re q => by
  refine wE.of (pe_listRg hc (glB_ok hg).1 hm (prg_2 (glB_ok hg').1 hm' (pw a) (pw b) (star1 sa) (star1 sb) (star2 (by simp [sb]))) (star1 rfl)) ?_
  refine (two ha hb tk rs re q).mono fun x H1 q1 => q1.mono fun y H2 q2 => ?_
  obtain ⟨m, S, d1, d2, d, S', rs, r1, r2, e, fin⟩ := q2
  unfold fLstR2 at e
  split at e
  · rename_i i j
    simp only [RD] at r1 r2
    exact ⟨i, j, r1, r2, rgL_fin rs e fin⟩
  · cases e⟩
theorem q_tupR1 (hc : X.calm = true) (hm : X.mg "tuple" = none) (hm' : X.mg "range" = none) (ha : QE X a f) (hg : glB X.env.scope "tuple" = true := by kernel_rfl) (hg' : glB X.env.scope "range" = true := by kernel_rfl)
    (sa : PySem.W.isStarred a = false := by rfl) : QE X (.Call (.Name "tuple" p) [.Call (.Name "range" p') [a] [] pos'] [] pos) (e1 fTupR1 f) := ⟨fun W tk m S σ σv H P rs re q => by
  refine wE.of (pe_tupRg hc (glB_ok hg).1 hm (prg_1 (glB_ok hg').1 hm' (pw a) (star1 sa)) (star1 rfl)) ?_
  refine (one ha tk rs re q).mono fun x H1 q1 => ?_
  obtain ⟨m, S, d1, d, S', rs, r1, e, fin⟩ := q1
  unfold fTupR1 at e
  split at e
  · rename_i i
    simp only [RD] at r1
    exact ⟨i, r1, rgT_fin rs e fin⟩
  · cases e⟩
theorem q_lstR1 (hc : X.calm = true) (hm : X.mg "list" = none) (hm' : X.mg "range" = none) (ha : QE X a f) (hg : glB X.env.scope "list" = true := by kernel_rfl) (hg' : glB X.env.scope "range" = true := by kernel_rfl)
    (sa : PySem.W.isStarred a = false := by rfl) : QE X (.Call (.Name "list" p) [.Call (.Name "range" p') [a] [] pos'] [] pos) (e1 fLstR1 f) := ⟨fun W tk m S σ σv H P rs re q => by
  refine wE.of (pe_listRg hc (glB_ok hg).1 hm (prg_1 (glB_ok hg').1 hm' (pw a) (star1 sa)) (star1 rfl)) ?_
  refine (one ha tk rs re q).mono fun x H1 q1 => ?_
  obtain ⟨m, S, d1, d, S', rs, r1, e, fin⟩ := q1
  unfold fLstR1 at e
  split at e
  · rename_i i
    simp only [RD] at r1
    exact ⟨i, r1, rgL_fin rs e fin⟩
  · cases e⟩
end
end L2.Z

set_option Elab.async false
set_option linter.all false
set_option maxRecDepth 100000
set_option maxHeartbeats 4000000
/-! ZV: comprehensions with two fors. -/
namespace L2.Z
open PySem PySem.Spec PyProof.Rows
variable [HasT]
section
variable {X : Cx} {elt tg : Expr} {ifs : List Expr} {scope : Scope} {vs : List Nat} {t : Tg} {tt : Env → M Bool} {f : Env → M D}
/-- the turns of one for, its items appended to the list at n; behind them Fin -/
theorem lc_loop {J : It} {it : Itm} {m0 : List Addr} {H0 : Hp} {S0 : Sto} {n : Nat} {D0 : Addr} {σ : Env} {σv : St} {ws : List Nat} {Fin : Sto → List Addr → Hp → Prop} {NxF : Hp → Prop} {k0 : Nat} (ji : JIt X.K J it m0 H0)
    (hg : ∀ s H C cl fp, QG (Bk X scope s H C cl fp) tg vs t) (ht : ∀ s H C cl fp, QTs (Bk X scope s H C cl fp) ifs tt) (he : ∀ s H C cl fp, QE (Bk X scope s H C cl fp) elt f) (hv : ∀ i ∈ vs, i ∈ ws)
    (rs : RS X.K m0 S0 H0) (re : RE X.K m0 H0 (wipeE σ ws) (L2.wipe σv ws)) (gn0 : m0[n]? = some D0)
    (p : PostG X.K X.mg m0 H0 (lcL it t tt f n (wipeE σ ws) k0 0 S0) (fun _ S' m' H' => Fin S' m' H') (fun _ _ _ => False))
    (hfin : ∀ S m H, RS X.K m S H → Ext m0 H0 m H → Fin S m H → NxF H) :
    ∃ W : Nat → Nat → Hp → Prop, (∃ m, W 0 m H0) ∧ ∀ i k H, W i k H → (J.stop i H ∧ NxF H) ∨ (J.go i H ∧ ∃ Nx : Hp → Prop, (∀ H', Nx H' → ∃ k', k' < k ∧ W (i + 1) k' H') ∧ ∀ x H', J.yld i H x H' → gB X scope tg x (L2.wipe σv ws) H' fun σ2 H2 => L2.wipe σ2 ws = L2.wipe σv ws ∧ ttB X scope ifs σ2 H2 fun b H3 =>
      if b = true then teB X scope elt σ2 H3 fun y H4 => ∃ acc, H4 D0 = some (.lst acc) ∧ acc.length < sizeLine ∧ Nx (upd H4 D0 (.lst (acc ++ [y]))) else Nx H3) := by
  refine ⟨fun i k H' => ∃ m S, RS X.K m S H' ∧ Ext m0 H0 m H' ∧ PostG X.K X.mg m H' (lcL it t tt f n (wipeE σ ws) k i S) (fun _ S' m' H'' => Fin S' m' H'') (fun _ _ _ => False), ⟨k0, m0, S0, rs, .refl _ _, p⟩, ?_⟩
  rintro i k H' ⟨m2, S2, rs2, x2, q2⟩
  have gn : m2[n]? = some D0 := pre_get x2.pre gn0
  cases k with
  | zero => exact q2.elim
  | succ k =>
    unfold lcL at q2
    cases en : nxt it i S2 with
    | none => rw [en] at q2; exact q2.elim
    | some o =>
      rw [en] at q2
      cases o with
      | none => exact .inl ⟨ji.stop m2 S2 H' i x2 rs2 en, hfin S2 m2 H' rs2 x2 (q2 m2 H' (.refl _ _) rs2)⟩
      | some d =>
        obtain ⟨g1, g2⟩ := ji.go m2 S2 H' i d x2 rs2 en
        refine .inr ⟨g1, fun H'' => ∃ m S, RS X.K m S H'' ∧ Ext m0 H0 m H'' ∧ PostG X.K X.mg m H'' (lcL it t tt f n (wipeE σ ws) k (i + 1) S) (fun _ S' m' H'' => Fin S' m' H'') (fun _ _ _ => False), fun H'' h => ⟨k, Nat.lt_succ_self _, h⟩, fun x H3 hy => ?_⟩
        obtain ⟨rs3, x3, rd3⟩ := g2 x H3 hy
        have re3 : RE X.K m2 H3 (wipeE σ ws) (L2.wipe σv ws) := re.mono (x2.trans x3)
        cases et : t d (wipeE σ ws) with
        | none => simp only [et] at q2; exact q2.elim
        | some σ3 =>
          simp only [et] at q2
          intro s0 H0' C cl fp
          refine (hg s0 H0' C cl fp).run m2 S2 _ σ3 _ H3 d x _ rs3 re3 rd3 et fun σv3 re4 on => ⟨?_, ?_⟩
          · exact on.wipe hv
          intro s1 H1' C1 cl1 fp1 pins s I
          have q3 := PostG.ext q2 x3
          have q4 : PostG X.K X.mg m2 H3 (tt σ3 S2) (fun b S4 m4 H4 => match b with
              | false => PostG X.K X.mg m4 H4 (lcL it t tt f n (wipeE σ ws) k (i + 1) S4) (fun _ S' m' H'' => Fin S' m' H'') (fun _ _ _ => False)
              | true => PostG X.K X.mg m4 H4 (f σ3 S4) (fun y S5 m5 H5 => ∃ acc, S5.get n = some (.lst acc) ∧ acc.length < sizeLine ∧ PostG X.K X.mg m5 H5 (lcL it t tt f n (wipeE σ ws) k (i + 1) (S5.set n (.lst (acc ++ [y])))) (fun _ S' m' H'' => Fin S' m' H'') (fun _ _ _ => False)) (fun _ _ _ => False)) (fun _ _ _ => False) := by
            cases e1 : tt σ3 S2 with
            | bad => simp only [e1] at q3; exact q3
            | exc y S4 => simp only [e1] at q3; exact q3.elim
            | ok b S4 =>
              cases b with
              | false => simp only [e1] at q3; exact fun m' H'' x' rs' => PostG.ext q3 x'
              | true =>
                simp only [e1] at q3
                intro m4 H4 x4 rs4
                show PostG X.K X.mg m4 H4 (f σ3 S4) _ _
                cases e2 : f σ3 S4 with
                | bad => simp only [e2] at q3; exact q3
                | exc y S5 => simp only [e2] at q3; exact q3.elim
                | ok y S5 =>
                  simp only [e2] at q3
                  intro m5 H5 x5 rs5
                  cases e3 : S5.get n with
                  | none => simp only [e3] at q3; exact q3.elim
                  | some o5 =>
                    cases o5 with
                    | lst acc =>
                      simp only [e3] at q3
                      cases e4 : Nat.blt acc.length sizeLine with
                      | false => simp only [e4] at q3; exact q3.elim
                      | true =>
                        simp only [e4] at q3
                        exact ⟨acc, rfl, Nat.le_of_ble_eq_true e4, PostG.ext q3 (x4.trans x5)⟩
                    | fz _ => simp only [e3] at q3; exact q3.elim
                    | dK _ => simp only [e3] at q3; exact q3.elim
                    | dT _ => simp only [e3] at q3; exact q3.elim
                    | fd _ => simp only [e3] at q3; exact q3.elim
          refine thn ((ht s1 H1' C1 cl1 fp1).run (fun _ _ _ _ => False) takes0 m2 S2 σ3 σv3 H3 _ rs3 re4 q4 pins s I) ?_
          rintro b s4 ⟨H4, I4, S4, m4, rs4, x4, q5⟩
          refine ⟨H4, I4, ?_⟩
          cases b with
          | false => exact iteF ⟨m4, S4, rs4, (x2.trans x3).trans x4, q5⟩
          | true =>
            refine iteT ?_
            intro s5 H5' C5 cl5 fp5
            refine ((he s5 H5' C5 cl5 fp5).run (fun _ _ _ _ => False) takes0 m4 S4 σ3 σv3 H4 _ rs4 (re4.mono x4) q5).mono ?_
            rintro y H5 ⟨d5, S5, m5, rs5, rd5, x5, acc, ea, hl, q6⟩
            have gn5 : m5[n]? = some D0 := pre_get (x4.trans x5).pre (pre_get (x3.pre) gn)
            obtain ⟨us, hw, rr⟩ := rs5.obj gn5 ea
            obtain ⟨x6, rs6⟩ := rs5.set (o := .lst (acc ++ [d5])) (u := .lst (us ++ [y])) gn5 ea hw (fun _ z => nomatch z) (fun _ _ z => nomatch z) (fun m' H'' x' => ⟨_, rfl, RDs.snoc (RDs.mono x' _ _ rr) (RD.mono x' _ _ rd5)⟩)
            exact ⟨us, hw, by rw [← rr.length]; exact hl, m5, _, rs6, (((x2.trans x3).trans x4).trans x5).trans x6, PostG.ext q6 x6⟩
end
/-! ### two fors -/
def lc2L (it : Itm) (t : Tg) (tt : Env → M Bool) (src1 : Env → M Itm) (vs1 : List Nat) (t1 : Tg) (tt1 : Env → M Bool) (f : Env → M D) (n : Nat) (σ : Env) : Nat → Nat → M Unit
  | 0, _ => bad
  | k + 1, i => fun S => match nxt it i S with
    | none => .bad
    | some none => .ok () S
    | some (some d) => match t d σ with
      | none => .bad
      | some σ1 => match tt σ1 S with
        | .ok false S1 => lc2L it t tt src1 vs1 t1 tt1 f n σ k (i + 1) S1
        | .ok true S1 => match src1 σ1 S1 with
          | .ok it1 S2 => match lcL it1 t1 tt1 f n (wipeE σ1 vs1) (cnt it1 S2) 0 S2 with
            | .ok _ S3 => lc2L it t tt src1 vs1 t1 tt1 f n σ k (i + 1) S3
            | _ => .bad
          | _ => .bad
        | _ => .bad
def eLc2 (vs : List Nat) (src : Env → M Itm) (t : Tg) (tt : Env → M Bool) (src1 : Env → M Itm) (vs1 : List Nat) (t1 : Tg) (tt1 : Env → M Bool) (f : Env → M D) : Env → M D := fun σ => bnd (src σ) fun it S => match lc2L it t tt src1 vs1 t1 tt1 f S.n (wipeE σ vs) (cnt it S) 0 (S.push (.lst [])) with
  | .ok _ S' => .ok (.loc S.n) S'
  | _ => .bad
def wIB (X : Cx) (scope : Scope) (tg iter : Expr) : TI := fun σ H R => ∀ s H0 C cl fp, wI (Bk X scope s H0 C cl fp) tg iter σ H R
section
variable {X : Cx} {elt tg iter tg1 iter1 : Expr} {ifs ifs1 : List Expr} {scope : Scope} {own : List (Str × Nat)} {pos : Pos} {src src1 : Env → M Itm} {vs vs1 : List Nat} {t t1 : Tg} {tt tt1 : Env → M Bool} {f : Env → M D}
theorem piB : ∀ (s : Shared) (H : Hp) (C : Addr) (cl : List (Str × Addr)) (fp : List Addr), PI (X.blk s H scope (compEnvC scope cl C X.env) fp) tg1 iter1 (wIB X scope tg1 iter1) := fun s H C cl fp => ⟨fun pins s1 σ H1 R I h => h s H C cl fp pins s1 I⟩
theorem lc2_reads (hi : QI X tg iter src) (hg : ∀ s H C cl fp, QG (Bk X scope s H C cl fp) tg vs t) (ht : ∀ s H C cl fp, QTs (Bk X scope s H C cl fp) ifs tt) (hi1 : ∀ s H C cl fp, QI (Bk X scope s H C cl fp) tg1 iter1 src1) (hg1 : ∀ s H C cl fp, QG (Bk X scope s H C cl fp) tg1 vs1 t1) (ht1 : ∀ s H C cl fp, QTs (Bk X scope s H C cl fp) ifs1 tt1)
    (he : ∀ s H C cl fp, QE (Bk X scope s H C cl fp) elt f) (hv : ∀ i ∈ vs, i ∈ own.map (·.2))
    {W : WX} (tk : Takes X W) {m : List Addr} {S : Sto} {σ : Env} {σv : St} {H : Hp} {P : D → Sto → List Addr → Hp → Prop} {Q : VK} (rs : RS X.K m S H) (re : RE X.K m H σ σv)
    (p : PostG X.K X.mg m H (eLc2 (own.map (·.2)) src t tt src1 vs1 t1 tt1 f σ S) P (fun c d H' => W c d σv H')) (hQ : ∀ v H', GV X.K m H P v H' → Q v H') :
    tLc2 (wI X tg iter) (gB X scope tg) (ttB X scope ifs) (wIB X scope tg1 iter1) (gB X scope tg1) (ttB X scope ifs1) (teB X scope elt) (own.map (·.2)) vs1 σv H Q := by
  refine (hi.run W tk m S σ σv H _ rs re p.bnd).mono ?_
  rintro J H1 ⟨it, S1, m1, rs1, ji, x1, q1⟩
  intro D0 hD
  obtain ⟨xp, rsp, gp⟩ := rs1.push (o := .lst []) (u := .lst []) hD (fun m' H' x => ⟨[], rfl, by simp only [RDs]⟩)
  generalize hσ0 : wipeE σ (own.map (·.2)) = σ0 at q1
  refine ⟨fun i n H' => ∃ m S, RS X.K m S H' ∧ Ext (m1 ++ [D0]) (upd H1 D0 (.lst [])) m H' ∧ PostG X.K X.mg m H' (lc2L it t tt src1 vs1 t1 tt1 f S1.n σ0 n i S) (fun _ S' m' H'' => P (.loc S1.n) S' m' H'') (fun _ _ _ => False), ⟨cnt it S1, m1 ++ [D0], S1.push (.lst []), rsp, .refl _ _, ?_⟩, ?_⟩
  · have q2 := PostG.ext q1 xp
    cases el : lc2L it t tt src1 vs1 t1 tt1 f S1.n σ0 (cnt it S1) 0 (S1.push (.lst [])) with
    | ok u S' => simp only [el] at q2; exact q2
    | exc y S' => simp only [el] at q2; exact q2.elim
    | bad => simp only [el] at q2; exact q2
  · rintro i n H' ⟨m2, S2, rs2, x2, q2⟩
    have gn : m2[S1.n]? = some D0 := pre_get x2.pre gp
    cases n with
    | zero => exact q2.elim
    | succ n =>
      unfold lc2L at q2
      cases en : nxt it i S2 with
      | none => rw [en] at q2; exact q2.elim
      | some o =>
        rw [en] at q2
        cases o with
        | none =>
          refine .inl ⟨ji.stop m2 S2 H' i (xp.trans x2) rs2 en, hQ _ _ ⟨.loc S1.n, S2, m2, rs2, ?_, (x1.trans xp).trans x2, q2 m2 H' (.refl _ _) rs2⟩⟩
          simp only [RD]
          exact ⟨D0, rfl, gn⟩
        | some d =>
          obtain ⟨g1, g2⟩ := ji.go m2 S2 H' i d (xp.trans x2) rs2 en
          refine .inr ⟨g1, fun H'' => ∃ m S, RS X.K m S H'' ∧ Ext (m1 ++ [D0]) (upd H1 D0 (.lst [])) m H'' ∧ PostG X.K X.mg m H'' (lc2L it t tt src1 vs1 t1 tt1 f S1.n σ0 n (i + 1) S) (fun _ S' m' H'' => P (.loc S1.n) S' m' H'') (fun _ _ _ => False), fun H'' h => ⟨n, Nat.lt_succ_self _, h⟩, fun x H3 hy => ?_⟩
          obtain ⟨rs3, x3, rd3⟩ := g2 x H3 hy
          have re3 : RE X.K m2 H3 σ0 (L2.wipe σv (own.map (·.2))) := by
            rw [← hσ0]
            exact (((re.mono x1).mono xp).mono (x2.trans x3)).wipe _
          cases et : t d σ0 with
          | none => simp only [et] at q2; exact q2.elim
          | some σ3 =>
            simp only [et] at q2
            intro s0 H0 C cl fp
            refine (hg s0 H0 C cl fp).run m2 S2 _ σ3 _ H3 d x _ rs3 re3 rd3 et fun σv3 re4 on => ⟨on.wipe hv, ?_⟩
            intro s1 H1' C1 cl1 fp1 pins s I
            have q3 := PostG.ext q2 x3
            have q4 : PostG X.K X.mg m2 H3 (tt σ3 S2) (fun k S4 m4 H4 => match k with
                | false => PostG X.K X.mg m4 H4 (lc2L it t tt src1 vs1 t1 tt1 f S1.n σ0 n (i + 1) S4) (fun _ S' m' H'' => P (.loc S1.n) S' m' H'') (fun _ _ _ => False)
                | true => PostG X.K X.mg m4 H4 (src1 σ3 S4) (fun it1 S5 m5 H5 => PostG X.K X.mg m5 H5 (lcL it1 t1 tt1 f S1.n (wipeE σ3 vs1) (cnt it1 S5) 0 S5) (fun _ S6 m6 H6 => PostG X.K X.mg m6 H6 (lc2L it t tt src1 vs1 t1 tt1 f S1.n σ0 n (i + 1) S6) (fun _ S' m' H'' => P (.loc S1.n) S' m' H'') (fun _ _ _ => False)) (fun _ _ _ => False)) (fun _ _ _ => False)) (fun _ _ _ => False) := by
              cases e1 : tt σ3 S2 with
              | bad => simp only [e1] at q3; exact q3
              | exc y S4 => simp only [e1] at q3; exact q3.elim
              | ok k S4 =>
                cases k with
                | false => simp only [e1] at q3; exact fun m' H'' x' rs' => PostG.ext q3 x'
                | true =>
                  simp only [e1] at q3
                  intro m4 H4 x4 rs4
                  show PostG X.K X.mg m4 H4 (src1 σ3 S4) _ _
                  cases e2 : src1 σ3 S4 with
                  | bad => simp only [e2] at q3; exact q3
                  | exc y S5 => simp only [e2] at q3; exact q3.elim
                  | ok it1 S5 =>
                    simp only [e2] at q3
                    intro m5 H5 x5 rs5
                    cases e3 : lcL it1 t1 tt1 f S1.n (wipeE σ3 vs1) (cnt it1 S5) 0 S5 with
                    | bad => simp only [e3] at q3; exact q3
                    | exc y S6 => simp only [e3] at q3; exact q3.elim
                    | ok u S6 =>
                      simp only [e3] at q3
                      intro m6 H6 x6 rs6
                      exact PostG.ext q3 ((x4.trans x5).trans x6)
            refine thn ((ht s1 H1' C1 cl1 fp1).run (fun _ _ _ _ => False) takes0 m2 S2 σ3 σv3 H3 _ rs3 re4 q4 pins s I) ?_
            rintro k s4 ⟨H4, I4, S4, m4, rs4, x4, q5⟩
            refine ⟨H4, I4, ?_⟩
            cases k with
            | false => exact iteF ⟨m4, S4, rs4, (x2.trans x3).trans x4, q5⟩
            | true =>
              refine iteT ?_
              intro s5 H5' C5 cl5 fp5
              refine ((hi1 s5 H5' C5 cl5 fp5).run (fun _ _ _ _ => False) takes0 m4 S4 σ3 σv3 H4 _ rs4 (re4.mono x4) q5).mono ?_
              rintro J1 H5 ⟨it1, S5, m5, rs5, ji1, x5, q6⟩
              have gn5 : m5[S1.n]? = some D0 := pre_get (x4.trans x5).pre (pre_get (x3.pre) gn)
              exact lc_loop ji1 hg1 ht1 he (fun _ h => h) rs5 ((re4.mono (x4.trans x5)).wipe vs1) gn5 q6 (fun S6 m6 H6 rs6 x6 q7 => ⟨m6, S6, rs6, (((x2.trans x3).trans x4).trans x5).trans x6, q7⟩)
theorem q_lc2 (own : List (Str × Nat)) (hc : X.calm = true) (hN : X.N.Nodup) (hi : QI X tg iter src) (ok : BlkOk X.N X.env.scope scope own) (hg : ∀ s H C cl fp, QG (Bk X scope s H C cl fp) tg vs t) (ht : ∀ s H C cl fp, QTs (Bk X scope s H C cl fp) ifs tt) (hi1 : ∀ s H C cl fp, QI (Bk X scope s H C cl fp) tg1 iter1 src1) (hg1 : ∀ s H C cl fp, QG (Bk X scope s H C cl fp) tg1 vs1 t1) (ht1 : ∀ s H C cl fp, QTs (Bk X scope s H C cl fp) ifs1 tt1)
    (he : ∀ s H C cl fp, QE (Bk X scope s H C cl fp) elt f) (hv : ∀ i ∈ vs, i ∈ own.map (·.2)) (hv1 : ∀ i ∈ vs1, i ∈ own.map (·.2)) (hs : ∀ x, foldedSetIterable iter X.env x = pure x := by intro _; rfl) (hs1 : ∀ env x, foldedSetIterable iter1 env x = pure x := by intro _ _; rfl) :
    QE X (.ListComp elt [⟨tg, iter, ifs, 0⟩, ⟨tg1, iter1, ifs1, 0⟩] scope pos) (eLc2 (own.map (·.2)) src t tt src1 vs1 t1 tt1 f) := ⟨fun W tk m S σ σv H P rs re p =>
  wE.of (pe_lc2 hc hN (piw tg iter) ok hv1 pgB ptB piB pgB ptB peB hs hs1) (lc2_reads hi hg ht hi1 hg1 ht1 he hv tk rs re p fun _ _ h => h)⟩
theorem qs_setLc2 (i : Nat) (own : List (Str × Nat)) {y : Str} {py spos : Pos} (hc : X.calm = true) (hN : X.N.Nodup) (hi : QI X tg iter src) (ok : BlkOk X.N X.env.scope scope own) (hg : ∀ s H C cl fp, QG (Bk X scope s H C cl fp) tg vs t) (ht : ∀ s H C cl fp, QTs (Bk X scope s H C cl fp) ifs tt) (hi1 : ∀ s H C cl fp, QI (Bk X scope s H C cl fp) tg1 iter1 src1) (hg1 : ∀ s H C cl fp, QG (Bk X scope s H C cl fp) tg1 vs1 t1) (ht1 : ∀ s H C cl fp, QTs (Bk X scope s H C cl fp) ifs1 tt1)
    (he : ∀ s H C cl fp, QE (Bk X scope s H C cl fp) elt f) (hv : ∀ i ∈ vs, i ∈ own.map (·.2)) (hv1 : ∀ i ∈ vs1, i ∈ own.map (·.2)) (hsw : swapsWith (.ListComp elt [⟨tg, iter, ifs, 0⟩, ⟨tg1, iter1, ifs1, 0⟩] scope pos) (some (.Name y py)) spos.line X.env = pure true) (hy : X.N[i]? = some y := by kernel_rfl) (hyl : X.env.scope.names.lookup y = some .local := by kernel_rfl)
    (hs : ∀ x, foldedSetIterable iter X.env x = pure x := by intro _; rfl) (hs1 : ∀ env x, foldedSetIterable iter1 env x = pure x := by intro _ _; rfl) : QS X (.Assign [.Name y py] (.ListComp elt [⟨tg, iter, ifs, 0⟩, ⟨tg1, iter1, ifs1, 0⟩] scope pos) spos) (sSet i (eLc2 (own.map (·.2)) src t tt src1 vs1 t1 tt1 f)) := ⟨fun W tk m S σ σv H Dn rs re p => by
  refine wS.of (ps_setLc2 hc hN hy hyl hsw (piw tg iter) ok hv1 pgB ptB piB pgB ptB peB hs hs1) ?_
  refine lc2_reads hi hg ht hi1 hg1 ht1 he hv tk rs re (PostS.sE re p) ?_
  rintro v H1 ⟨d, S1, m1, rs1, r1, x1, q1⟩
  exact q1 m1 H1 _ (.refl _ _) rs1 ((re.mono x1).set r1 i)⟩
end
end L2.Z

set_option Elab.async false
set_option linter.all false
set_option maxRecDepth 100000
set_option maxHeartbeats 4000000
/-! ZM: max of a list of pairs of ints. -/
namespace L2.Z
open PySem PySem.Spec PyProof.Rows
mutual
theorem reads_uniq {h : Heap} : ∀ (d : PyData) (v : Value) (as : List Addr) (e : PyData) (bs : List Addr), d.canLay0 = true → Reads h v d as → Reads h v e bs → d = e
  | .none, _, _, _, _, _, r, q => by cases r; cases q; rfl
  | .bool _, _, _, _, _, _, r, q => by cases r; cases q; rfl
  | .int _, _, _, _, _, _, r, q => by cases r; cases q; rfl
  | .str _, _, _, _, _, _, r, q => by cases r; cases q; rfl
  | .list xs, _, _, _, _, c, r, q => by
    cases r with
    | list ho hc hd ra =>
      cases q with
      | list ho' hc' hd' ra' =>
        rw [ho] at ho'; cases ho'
        rw [hd] at hd'; cases hd'
        rw [readsAll_uniq xs _ _ _ _ c ra ra']
      | tuple ho' hc' hd' ra' =>
        rw [ho] at ho'; cases ho'
        rw [hc] at hc'; exact absurd (Value.type.inj hc') (by decide)
      | dict ho' hc' hd' _ _ =>
        rw [ho] at ho'; cases ho'
        rw [hc] at hc'; exact absurd (Value.type.inj hc') (by decide)
  | .tuple xs, _, _, _, _, c, r, q => by
    cases r with
    | tuple ho hc hd ra =>
      cases q with
      | tuple ho' hc' hd' ra' =>
        rw [ho] at ho'; cases ho'
        rw [hd] at hd'; cases hd'
        rw [readsAll_uniq xs _ _ _ _ c ra ra']
      | list ho' hc' hd' ra' =>
        rw [ho] at ho'; cases ho'
        rw [hc] at hc'; exact absurd (Value.type.inj hc') (by decide)
      | dict ho' hc' hd' _ _ =>
        rw [ho] at ho'; cases ho'
        rw [hc] at hc'; exact absurd (Value.type.inj hc') (by decide)
  | .dict _, _, _, _, _, c, _, _ => by cases c
theorem readsAll_uniq {h : Heap} : ∀ (ds : List PyData) (vs : List Value) (as : List Addr) (es : List PyData) (bs : List Addr), PyData.canLayAll0 ds = true → ReadsAll h vs ds as → ReadsAll h vs es bs → ds = es
  | [], _, _, _, _, _, r, q => by cases r; cases q; rfl
  | d :: ds, _, _, _, _, c, r, q => by
    simp only [PyData.canLayAll0, Bool.and_eq_true] at c
    cases r with
    | cons r1 r2 =>
      cases q with
      | cons q1 q2 => rw [reads_uniq d _ _ _ _ c.1 r1 q1, readsAll_uniq ds _ _ _ _ c.2 r2 q2]
end
abbrev IP := Int × Int
def pIP (p : IP) : PyData := .tuple [.int p.1, .int p.2]
def dIP (p : IP) : D := .tup [.int p.1, .int p.2]
def vIP (p : IP) : List V := [.int p.1, .int p.2]
def ipOf : D → Option IP
  | .tup [.int i, .int j] => some (i, j)
  | _ => none
def ipsOf : List D → Option (List IP)
  | [] => some []
  | d :: ds => match ipOf d with
    | none => none
    | some p => match ipsOf ds with
      | none => none
      | some ps => some (p :: ps)
theorem ipOf_eq {d : D} {p : IP} (h : ipOf d = some p) : d = dIP p := by
  unfold ipOf at h
  split at h
  · cases h; rfl
  · cases h
theorem ipsOf_eq : ∀ {ds : List D} {ps : List IP}, ipsOf ds = some ps → ds = ps.map dIP
  | [], ps, h => by cases h; rfl
  | d :: ds, ps, h => by
    simp only [ipsOf] at h
    split at h
    · cases h
    · rename_i p hp
      split at h
      · cases h
      · rename_i qs hq
        cases h
        rw [ipOf_eq hp, ipsOf_eq hq]; rfl
theorem ipsOf_map : ∀ ps : List IP, ipsOf (ps.map dIP) = some ps
  | [] => rfl
  | p :: ps => by
    have e : ipOf (dIP p) = some p := rfl
    simp only [List.map_cons, ipsOf, e, ipsOf_map ps]
def lexP (p q : IP) : Bool := if p.1 = q.1 then decide (p.2 < q.2) else decide (p.1 < q.1)
def maxP : List IP → Option IP
  | [] => none
  | p :: ps => some (ps.foldl (fun a b => if lexP a b = true then b else a) p)
@[irreducible] def fMaxP : FL := onLst fun xs => ((ipsOf xs).bind maxP).map dIP
theorem lt_IP (p q : IP) : PySem.W.dataLt (pIP p) (pIP q) = lexP p q := by
  unfold PySem.W.dataLt pIP lexP
  simp only [PySem.W.keyToks, PySem.W.keyToksAll, List.append_nil, List.cons_append, List.nil_append]
  simp only [PyProof.Rows.lexLt, PyProof.Rows.itemLt]
  by_cases h : p.1 = q.1
  · rw [if_pos h, h]
    by_cases h2 : p.2 = q.2
    · simp [h2]
    · by_cases h3 : p.2 < q.2
      · simp [h3]
      · have h4 : q.2 < p.2 := by omega
        simp [h3, h4]
  · rw [if_neg h]
    by_cases h3 : p.1 < q.1
    · simp [h3]
    · have h4 : q.1 < p.1 := by omega
      simp [h3, h4]
theorem maxD_IP : ∀ (ps : List IP) (p : IP), PySem.W.maxD (pIP p) (ps.map pIP) = pIP (ps.foldl (fun a b => if lexP a b = true then b else a) p)
  | [], p => rfl
  | q :: ps, p => by
    have ih := maxD_IP ps (if lexP p q = true then q else p)
    unfold PySem.W.maxD at ih ⊢
    simp only [List.map_cons, List.foldl_cons, lt_IP]
    rw [← ih]
    by_cases h : lexP p q = true
    · simp [h]
    · simp [h]
def fMaxG : FL := fun ds S => match fMax1 ds S with
  | some r => some r
  | none => fMaxP ds S
variable [HasT]
section
variable {X : Cx} {pins : List (Addr × Obj)} {σ : St} {H : Hp} {s : Shared} {m : List Addr}
theorem dp_ips {K : PySem.W.Frag} : ∀ {ps : List IP} {vs : List V}, RDs K m H (ps.map dIP) vs → DpAll K H vs (ps.map pIP)
  | [], vs, h => by simp only [List.map_nil, RDs] at h; subst h; exact .nil
  | p :: ps, vs, h => by
    simp only [List.map_cons, RDs] at h
    obtain ⟨v, w, rfl, r, rr⟩ := h
    simp only [dIP, RD, RDs] at r
    obtain ⟨a, us, rfl, hs, u1, w1, rfl, rfl, u2, w2, rfl, rfl, rfl⟩ := r
    exact .cons (.tup hs (.cons (.int _) (.cons (.int _) .nil))) (dp_ips rr)
theorem c_maxP {k : Nat} (hr : Room k X.A) (hc : X.calm = true) : CallR X (.builtin "max") (rFL X.K fMaxP) := by
  unfold fMaxP
  refine onLst_r fun pins s σ H us Q a vs m xs d I r hq t e fin => ?_
  cases q : ipsOf xs with
  | none => rw [q] at e; cases e
  | some ps =>
    rw [q] at e
    have ex := ipsOf_eq q
    subst ex
    cases ps with
    | nil => cases e
    | cons p ps =>
      simp only [Option.bind_some, maxP, Option.map_some, Option.some.injEq] at e
      subst e
      obtain ⟨its, rv, hl, _⟩ := I.list hq
      obtain ⟨u, rfl, ru⟩ := vals1 r
      obtain rfl : u = Value.ref a := ru
      obtain ⟨as, hra⟩ := Dp.readsAll I _ _ _ (dp_ips t) rv
      have dep : ∀ l : List IP, PyData.depthAll (l.map pIP) ≤ 1 := fun l => by
        induction l with
        | nil => simp [PyData.depthAll]
        | cons x l ih => simp only [List.map_cons, PyData.depthAll, pIP, PyData.depth]; omega
      have hu := hr.un
      refine PySem.W.max_list_data (I.ok.hd hc) hl.isList (x := pIP p) (xs := ps.map pIP) (as := as) (by simpa using hra) ⟨fun x hx y hy => ?_, fun x hx => ?_⟩ (by have := dep (p :: ps); simp only [List.map_cons] at this; omega) fun i v h' tk bs hv hrd hk => ?_
      · rw [← List.map_cons] at hx hy
        obtain ⟨x, _, rfl⟩ := List.mem_map.mp hx
        obtain ⟨y, _, rfl⟩ := List.mem_map.mp hy
        rfl
      · rw [← List.map_cons] at hx
        obtain ⟨x, _, rfl⟩ := List.mem_map.mp hx
        exact fun z => by cases z
      · rw [maxD_IP] at hrd
        -- the value's own pair
        have hvi : its[i]? = some v := by rw [← Array.getElem?_toList] at hv; simpa using hv
        have key : ∀ {qs : List IP} {ws : List V} {us : List Value} {j : Nat}, RDs X.K m H (qs.map dIP) ws → Vals ws us → us[j]? = some v → ∃ q w, RD X.K m H (dIP q) w ∧ RelV w v := fun {qs} => by
          induction qs with
          | nil =>
            intro ws us j h1 h2 h3
            simp only [List.map_nil, RDs] at h1
            subst h1
            cases h2
            simp at h3
          | cons q qs ih =>
            intro ws us j h1 h2 h3
            simp only [List.map_cons, RDs] at h1
            obtain ⟨w, ww, rfl, rw1, rr⟩ := h1
            cases h2 with
            | cons hh tt =>
              cases j with
              | zero =>
                simp only [List.getElem?_cons_zero, Option.some.injEq] at h3
                subst h3
                exact ⟨q, w, rw1, hh⟩
              | succ j =>
                simp only [List.getElem?_cons_succ] at h3
                exact ih rr tt h3
        obtain ⟨q1, w, rw1, hh⟩ := key (qs := p :: ps) t rv hvi
        have dp1 : Dp X.K H w (pIP q1) := by
          have := dp_ips (K := X.K) (m := m) (H := H) (ps := [q1]) (vs := [w]) (by simp only [List.map_cons, List.map_nil, RDs]; exact ⟨w, [], rfl, rw1, rfl⟩)
          cases this with
          | cons a b => exact a
        obtain ⟨bs1, rd1⟩ := Dp.reads I _ _ _ dp1 hh
        have e1 := reads_uniq (pIP q1) _ _ _ _ rfl (Reads.keeps hk rd1) hrd
        have e2 : q1 = ps.foldl (fun a b => if lexP a b = true then b else a) p := by
          generalize ps.foldl (fun a b => if lexP a b = true then b else a) p = z at e1
          obtain ⟨a1, b1⟩ := q1
          obtain ⟨a2, b2⟩ := z
          simp only [pIP, PyData.tuple.injEq, List.cons.injEq, PyData.int.injEq, and_true] at e1
          rw [e1.1, e1.2]
        rw [← e2] at fin
        exact ⟨w, H, I.kept hk, hh, fin w rw1⟩
theorem rFL_or {K : PySem.W.Frag} {f g : FL} {F : Value} (hf : CallR X F (rFL X.K f)) (hg : CallR X F (rFL X.K g)) : CallR X F (rFL X.K fun ds S => match f ds S with
    | some r => some r
    | none => g ds S) := by
  intro pins s σ H vs us Q I r h
  obtain ⟨m, S, ds, d, S', rs, rd, e, fin⟩ := h
  cases q : f ds S with
  | some z =>
    simp only [q] at e
    exact hf pins s σ H vs us Q I r ⟨m, S, ds, d, S', rs, rd, by rw [q]; exact e, fin⟩
  | none =>
    simp only [q] at e
    exact hg pins s σ H vs us Q I r ⟨m, S, ds, d, S', rs, rd, e, fin⟩
theorem c_maxG {k : Nat} (hr : Room k X.A) (hc : X.calm = true) : CallR X (.builtin "max") (rFL X.K fMaxG) := rFL_or (K := X.K) (c_max1 hc) (c_maxP hr hc)
end
end L2.Z

set_option Elab.async false
set_option linter.all false
set_option maxRecDepth 100000
set_option maxHeartbeats 4000000
/-! ZH: words for the head and the law's end. -/
namespace L2.Z
open PySem PySem.Spec PyProof.Rows
def clsAt (s : Stmt) (j : Nat) : Stmt := match s with
  | .ClassDef _ _ _ b _ _ _ _ _ _ _ => b.getD j (.Pass ⟨0, 0, 0, 0⟩)
  | s => s
def bltB (K : PySem.W.Frag) (B i : String) : Bool := match PySem.W.findCls K (.type B) (.type "type") "__init__" with
  | some (.val (.builtin i')) => i' == i
  | _ => false
theorem bltB_ok {K : PySem.W.Frag} {B i : String} (h : bltB K B i = true) : PySem.W.findCls K (.type B) (.type "type") "__init__" = some (.val (.builtin i)) := by
  unfold bltB at h
  split at h
  · rename_i i' e
    rw [e, beq_iff_eq.mp h]
  · cases h
theorem look_mem {α β : Type} [BEq α] [LawfulBEq α] {a : α} {b : β} : ∀ {l : List (α × β)}, l.lookup a = some b → (a, b) ∈ l
  | [], h => by cases h
  | (x, y) :: r, h => by
    simp only [List.lookup] at h
    cases q : (a == x) with
    | true =>
      rw [q] at h
      cases h
      rw [eq_of_beq q]
      exact List.mem_cons_self
    | false =>
      rw [q] at h
      exact List.mem_cons_of_mem _ (look_mem h)
def nodupB : List Addr → Bool
  | [] => true
  | a :: r => !r.contains a && nodupB r
theorem nodupB_ok : ∀ {l : List Addr}, nodupB l = true → l.Nodup
  | [], _ => List.nodup_nil
  | a :: r, h => by
    simp only [nodupB, Bool.and_eq_true, Bool.not_eq_true'] at h
    refine List.nodup_cons.mpr ⟨fun z => ?_, nodupB_ok h.2⟩
    have := List.contains_iff_mem.mpr z
    rw [this] at h
    cases h.1
def lamN (n : Str) : Str := n ++ ".<locals>." ++ "<lambda>"
def lamT (tf : List He.Defn) (K : PySem.W.Frag) : List (Addr × Str) := tf.map fun p => ((He.cT K p).2, lamN p.1)
theorem map_inj_of {α : Type} {f : α → Addr} : ∀ {l : List α}, (l.map f).Nodup → ∀ {x y : α}, x ∈ l → y ∈ l → f x = f y → x = y
  | [], _, _, _, hx, _, _ => by cases hx
  | a :: r, h, x, y, hx, hy, e => by
    simp only [List.map_cons, List.nodup_cons] at h
    rcases List.mem_cons.mp hx with ex | hx1
    · rcases List.mem_cons.mp hy with ey | hy1
      · rw [ex, ey]
      · exact absurd (by rw [← ex, e]; exact List.mem_map_of_mem hy1) h.1
    · rcases List.mem_cons.mp hy with ey | hy1
      · exact absurd (by rw [← ey, ← e]; exact List.mem_map_of_mem hx1) h.1
      · exact map_inj_of h.2 hx1 hy1 e
theorem knt_of {tf : List He.Defn} {K : PySem.W.Frag} {base : Heap} {mg : Str → Option Value} (hnd : nodupB (tf.map fun p => (He.cT K p).2) = true) (hB : ∀ p ∈ tf.map (He.cT K), LamX.TabB base mg p.1 p.2) {n : Str} (hm : (n, none) ∈ tf) :
    @KnT ⟨lamT tf K⟩ base mg (n ++ ".<locals>." ++ "<lambda>") (He.codeOf K (n, none)) := by
  letI : HasT := ⟨lamT tf K⟩
  refine ⟨⟨(He.cT K (n, none)).2, hB (He.cT K (n, none)) (List.mem_map_of_mem hm), List.mem_map.mpr ⟨(n, none), hm, rfl⟩, fun p hp e => ?_⟩⟩
  obtain ⟨q, hq, rfl⟩ := List.mem_map.mp hp
  have : q = (n, none) := map_inj_of (nodupB_ok hnd) hq hm e
  rw [this]
  rfl
theorem lawAt_of {l : PySem.W.OpenLaw} {w : World} {K : PySem.W.Frag} {mg : Str → Option Value} {h : Heap} {k : Nat} {x : Str} {fa : Addr} {fd : FuncData} {tf : List He.Defn} {c : List D → M D} (X : K.In h)
    (hd : ∀ p ∈ tf, PySem.W.codeHdIn K (He.cT K p).1 (He.cT K p).2 = true) (out : ∀ p ∈ tf, K.lookup (He.cT K p).2 = none) (empty : ∀ p ∈ tf, h.get? (He.cT K p).2 = some { cls := .none, data := .fields #[] })
    (hb : ∀ (s : Shared) (u : Value), BindsTo s fd ⟨[u], []⟩ [(x, u)])
    (hc : ∀ ns : List Int, ns.length ≤ 63 → (∀ z ∈ ns, Builtin.Int.intBits z ≤ 1048576) → ∃ S, c [.scr ns] ⟨[], 0⟩ = .ok (.bl true) S)
    (hF : ∀ base : Heap, K.In base → base.Ns mainGlobals mg → (∀ p ∈ tf.map (He.cT K), LamX.TabB base mg p.1 p.2) → FnOk l.prog w K mg base (L2.CX l.prog w) k fa fd [x] (@spZ ⟨lamT tf K⟩ K mg 1 c)) :
    LamX.LawAtS l w K (L2.CX l.prog w) k 63 x mg fa h := by
  refine ⟨fd, tf.map (He.cT K), @spZ ⟨lamT tf K⟩ K mg 1 c, ?_, ?_, ?_, hb, ?_, hF⟩
  · intro p hp
    obtain ⟨q, hq, rfl⟩ := List.mem_map.mp hp
    exact empty q hq
  · intro p hp
    obtain ⟨q, hq, rfl⟩ := List.mem_map.mp hp
    exact out q hq
  · intro p hp
    obtain ⟨q, hq, rfl⟩ := List.mem_map.mp hp
    exact PySem.W.codeHd_of_K X (hd q hq)
  · intro H a ns hl hbits hT hS
    letI : HasT := ⟨lamT tf K⟩
    obtain ⟨S, e⟩ := hc ns hl hbits
    refine ⟨[], ⟨[], 0⟩, [.scr ns], rfl, ⟨?_, List.nodup_nil, rfl, fun i b e => by simp at e⟩, ?_, ?_⟩
    · intro p hp
      obtain ⟨q, hq, rfl⟩ := List.mem_map.mp hp
      exact LamX.TabS.nil (hT (He.cT K q) (List.mem_map_of_mem hq))
    · simp only [RDs, RD]
      exact ⟨_, [], rfl, ⟨a, rfl, ScrAt.of hS⟩, rfl⟩
    · rw [e]
      intro m' H' _ _ v rv
      simp only [RD] at rv
      exact rv
theorem cx_false {P : Program} {w : World} {H : Hp} {s : Shared} {e : Value} {s' : Shared} (h : L2.CX P w [] H s (fun _ _ _ => False) e s') : False := by
  obtain ⟨_, _, _, _, _, _, _, _, _, _, _, _, z⟩ := h
  exact z
/-! ### the Hook, the statics beside -/
def asZ (g : Addr → Option Obj) (n : Nat) : List Addr := cStatics :: He.asD g n
def obsZ (n : Nat) (fa : List He.Fa) (fn : List He.DefD) (ts : List He.Tab) (tf : List He.Defn) (ex : PySem.W.Frag → Bool) (g : Addr → Option Obj) : He.AlX :=
  let K := He.frT g (asZ g n)
  (He.obsT fa fn ts K, ex K && He.tabsB g tf K)
theorem saysZ {as : List Addr} {fa : List He.Fa} {fn : List He.DefD} {ts : List He.Tab} {tf : List He.Defn} {ex : PySem.W.Frag → Bool} {w : World} {h : Heap}
    (e : ((He.obsT fa fn ts (He.frT h.get? as), ex (He.frT h.get? as) && He.tabsB h.get? tf (He.frT h.get? as)) : He.AlX) = He.valX fn ts w) : He.SaysX fa fn ts tf ex w h (He.frT h.get? as) := by
  generalize hK : He.frT h.get? as = K at e
  have e1 := congrArg Prod.fst e
  have e2 := Bool.and_eq_true_iff.mp (congrArg Prod.snd e)
  have look : ∀ p ∈ tf, PySem.W.codeHdIn K (He.cT K p).1 (He.cT K p).2 = true ∧ ∃ o, h.get? (He.cT K p).2 = some o ∧ He.emptyTab o = true := by
    intro p hp
    have z := Bool.and_eq_true_iff.mp (List.all_eq_true.mp e2.2 p hp)
    refine ⟨z.1, ?_⟩
    have z2 := z.2
    split at z2
    · exact ⟨_, by assumption, z2⟩
    · cases z2
  constructor
  · exact e1
  · exact e2.1
  · exact fun p hp => (look p hp).1
  · intro p hp
    obtain ⟨o, q, z⟩ := (look p hp).2
    rw [← hK] at q ⊢
    exact He.frT_none q z
  · intro p hp
    obtain ⟨o, q, z⟩ := (look p hp).2
    exact q.trans (congrArg some (He.emptyTab_eq z))
def hookZ (n : Nat) (fa : List He.Fa) (fn : List He.DefD) (ts : List He.Tab) (tf : List He.Defn) (ex : PySem.W.Frag → Bool) : PySem.W.Hook where
  α := He.AlX
  obs s := obsZ n fa fn ts tf ex s.heap.get?
  val w := He.valX fn ts w
  says w h := ∃ K : PySem.W.Frag, K.In h ∧ He.SaysX fa fn ts tf ex w h K
  of := fun _ _ e => ⟨_, He.frT_in, saysZ e⟩
  keeps := fun _ _ _ z k => z.elim fun K c => ⟨K, c.1.keeps k, c.2.t, c.2.more, c.2.hd, c.2.out, fun p hp => k _ _ (c.2.empty p hp)⟩
theorem obsZ_eq {n : Nat} {fa : List He.Fa} {fn : List He.DefD} {ts : List He.Tab} {tf : List He.Defn} {ex : PySem.W.Frag → Bool} {g : Addr → Option Obj} {s : Shared} (h : ∀ a, g a = s.heap.get? a) : obsZ n fa fn ts tf ex g = (hookZ n fa fn ts tf ex).obs s := by
  rw [funext h]; rfl
end L2.Z

set_option Elab.async false
set_option linter.all false
set_option maxRecDepth 100000
set_option maxHeartbeats 4000000
/-! ZP: the plain layer: what a denotation answers, by weakest preconditions. -/
namespace L2.Z
open PySem PySem.Spec PyProof.Rows

def wp {α : Type} (m : M α) (S : Sto) (Q : α → Sto → Prop) (E : Xc → Sto → Prop) : Prop := match m S with
  | .ok a S' => Q a S'
  | .exc x S' => E x S'
  | .bad => False
def wo (o : Option (D × Sto)) (Q : D → Sto → Prop) : Prop := match o with
  | some (d, S) => Q d S
  | none => False
/-- a statement's: what is asked by how it ends -/
abbrev Rs := Fl → Env → Sto → Prop
def ws (g : Sm) (σ : Env) (S : Sto) (R : Rs) : Prop := match g σ S with
  | .ok (fl, σ') S' => R fl σ' S'
  | _ => False
def wm (m : M (Fl × Env)) (S : Sto) (R : Rs) : Prop := match m S with
  | .ok (fl, σ') S' => R fl σ' S'
  | _ => False
def wQ (b : Bool) (A B : Prop) : Prop := if b = true then A else B
def wB (d : D) (A B : Prop) : Prop := match d with
  | .bl true => A
  | .bl false => B
  | _ => False
def sq (g : Sm) (R : Rs) : Rs := fun fl σ S => match fl with
  | .nx => ws g σ S R
  | .bk => R .bk σ S
  | .ct => R .ct σ S
  | .rt d => R (.rt d) σ S
  | .xc x => R (.xc x) σ S
def fz (Q : D → Sto → Prop) (E : Xc → Sto → Prop) : Rs := fun fl _ S => match fl with
  | .nx => Q .non S
  | .rt d => Q d S
  | .xc x => E x S
  | _ => False
/-- what is there, then what is asked of it -/
def wt {α : Type} (o : Option α) (P : α → Prop) : Prop := ∃ a, o = some a ∧ P a
def wz (n : Nat) (P : Prop) : Prop := n ≤ sizeLine ∧ P
def asBl : D → Option Bool
  | .bl b => some b
  | _ => none
def asInt : D → Option Int
  | .int b => some b
  | _ => none
def as2 {α : Type} : List α → Option (α × α)
  | [a, b] => some (a, b)
  | _ => none
def as3 {α : Type} : List α → Option (α × α × α)
  | [a, b, c] => some (a, b, c)
  | _ => none
abbrev noX : Xc → Sto → Prop := fun _ _ => False
section
variable {α β : Type} {S S' : Sto} {σ : Env} {Q Q' : D → Sto → Prop} {E E' : Xc → Sto → Prop} {R R' : Rs} {A B : Prop}
theorem wp.imp {m : M α} {Q Q' : α → Sto → Prop} (h : wp m S Q E) (q : ∀ a S', Q a S' → Q' a S') (e : ∀ x S', E x S' → E' x S') : wp m S Q' E' := by
  unfold wp at h ⊢
  cases z : m S with
  | ok a S1 => rw [z] at h; exact q _ _ h
  | exc x S1 => rw [z] at h; exact e _ _ h
  | bad => rw [z] at h; exact h
theorem wp.use {m : M α} {Q Q' : α → Sto → Prop} (h : wp m S Q noX) (q : ∀ a S', Q a S' → Q' a S') : wp m S Q' E' := h.imp q fun _ _ z => z.elim
theorem wp.ok {m : M α} {Q : α → Sto → Prop} (h : wp m S Q noX) : ∃ a S', m S = .ok a S' ∧ Q a S' := by
  unfold wp at h
  cases z : m S with
  | ok a S1 => rw [z] at h; exact ⟨_, _, rfl, h⟩
  | exc x S1 => rw [z] at h; exact h.elim
  | bad => rw [z] at h; exact h.elim
theorem wp.of {m : M α} {Q : α → Sto → Prop} {a : α} (e : m S = .ok a S') (h : Q a S') : wp m S Q E := by unfold wp; rw [e]; exact h
theorem wp_bnd {m : M α} {k : α → M β} {Q : β → Sto → Prop} (h : wp m S (fun a S1 => wp (k a) S1 Q E) E) : wp (bnd m k) S Q E := by
  unfold wp at h ⊢
  unfold bnd
  cases z : m S with
  | ok a S1 => rw [z] at h; exact h
  | exc x S1 => rw [z] at h; exact h
  | bad => rw [z] at h; exact h
theorem wp_ret {a : α} {Q : α → Sto → Prop} (h : Q a S) : wp (ret a) S Q E := h
theorem wp_up {o : Sto → Option (D × Sto)} (h : wo (o S) Q) : wp (up o) S Q E := by
  unfold wo at h
  unfold wp up
  cases z : o S with
  | none => rw [z] at h; exact h.elim
  | some p => rw [z] at h; exact h
theorem wo_of {o : Option (D × Sto)} {d : D} (e : o = some (d, S')) (h : Q d S') : wo o Q := by rw [e]; exact h
/-! ### expressions -/
theorem w_C {d : D} (h : Q d S) : wp (eC d σ) S Q E := h
theorem w_var {i : Nat} {d : D} (e : σ[i]? = some (some d)) (h : Q d S) : wp (eVar i σ) S Q E := by
  unfold eVar
  rw [e]
  exact h
theorem w_e1 {h : F1} {f : Env → M D} (w : wp (f σ) S (fun x S1 => wo (h x S1) Q) E) : wp (e1 h f σ) S Q E := wp_bnd (w.imp (fun _ _ z => wp_up z) fun _ _ z => z)
theorem w_e2 {h : F2} {f g : Env → M D} (w : wp (f σ) S (fun x S1 => wp (g σ) S1 (fun y S2 => wo (h x y S2) Q) E) E) : wp (e2 h f g σ) S Q E :=
  wp_bnd (w.imp (fun _ _ z => wp_bnd (z.imp (fun _ _ z => wp_up z) fun _ _ z => z)) fun _ _ z => z)
theorem w_nil {Q : List D → Sto → Prop} (h : Q [] S) : wp (aNil σ) S Q E := h
theorem w_cons {f : Env → M D} {g : Env → M (List D)} {Q : List D → Sto → Prop} (w : wp (f σ) S (fun x S1 => wp (g σ) S1 (fun xs S2 => Q (x :: xs) S2) E) E) : wp (aCons f g σ) S Q E :=
  wp_bnd (w.imp (fun _ _ z => wp_bnd (z.imp (fun _ _ z => z) fun _ _ z => z)) fun _ _ z => z)
theorem w_tup {g : Env → M (List D)} (w : wp (g σ) S (fun ds S1 => wz ds.length (Q (.tup ds) S1)) E) : wp (eTup g σ) S Q E :=
  wp_bnd (w.imp (fun ds S1 z => wp_up (wo_of (by unfold mkTup; rw [Nat.ble_eq_true_of_le z.1]) z.2)) fun _ _ z => z)
theorem w_lst {g : Env → M (List D)} (w : wp (g σ) S (fun ds S1 => wz ds.length (Q (.loc S1.n) (S1.push (.lst ds)))) E) : wp (eLst g σ) S Q E :=
  wp_bnd (w.imp (fun ds S1 z => wp_up (wo_of (by unfold mkLst; rw [Nat.ble_eq_true_of_le z.1]) z.2)) fun _ _ z => z)
theorem w_cb {h : FL} {g : Env → M (List D)} (w : wp (g σ) S (fun ds S1 => wo (h ds S1) Q) E) : wp (eCB h g σ) S Q E := wp_bnd (w.imp (fun _ _ z => wp_up z) fun _ _ z => z)
theorem w_call {c : Orc} {i : Nat} {g : Env → M (List D)} (w : wp (g σ) S (fun ds S1 => wp (c i ds) S1 Q E) E) : wp (eCall c i g σ) S Q E := wp_bnd w
theorem w_not {f : Env → M D} (w : wp (f σ) S (fun x S1 => wt (asBl x) fun b => Q (.bl (!b)) S1) E) : wp (eNot f σ) S Q E :=
  wp_bnd (w.imp (fun d _ z => by
    obtain ⟨b, e, z⟩ := z
    cases d with
    | bl c => cases e; exact z
    | _ => cases e) fun _ _ z => z)
theorem w_and {f g : Env → M D} (w : wp (f σ) S (fun x S1 => wB x (wp (g σ) S1 Q E) (Q (.bl false) S1)) E) : wp (eAnd f g σ) S Q E :=
  wp_bnd (w.imp (fun d _ z => by
    cases d with
    | bl b => cases b <;> exact z
    | _ => exact z.elim) fun _ _ z => z)
theorem w_or {f g : Env → M D} (w : wp (f σ) S (fun x S1 => wB x (Q (.bl true) S1) (wp (g σ) S1 Q E)) E) : wp (eOr f g σ) S Q E :=
  wp_bnd (w.imp (fun d _ z => by
    cases d with
    | bl b => cases b <;> exact z
    | _ => exact z.elim) fun _ _ z => z)
theorem w_if {t : Env → M Bool} {f g : Env → M D} (w : wp (t σ) S (fun b S1 => wQ b (wp (f σ) S1 Q E) (wp (g σ) S1 Q E)) E) : wp (eIf t f g σ) S Q E :=
  wp_bnd (w.imp (fun b _ z => by cases b <;> exact z) fun _ _ z => z)
theorem w_chain {h h' : F2} {f g k : Env → M D} (w : wp (f σ) S (fun x S1 => wp (g σ) S1 (fun y S2 => wo (h x y S2) fun z S3 => wB z (wp (k σ) S3 (fun w S4 => wo (h' y w S4) Q) E) (Q (.bl false) S3)) E) E) : wp (eChain h h' f g k σ) S Q E := by
  refine wp_bnd (w.imp (fun _ _ z => wp_bnd (z.imp (fun _ _ z => ?_) fun _ _ z => z)) fun _ _ z => z)
  refine wp_bnd ((wp_up z).imp (fun d _ z => ?_) fun _ _ z => z)
  cases d with
  | bl b =>
    cases b with
    | true => exact wp_bnd (z.imp (fun _ _ z => wp_up z) fun _ _ z => z)
    | false => exact z
  | _ => exact z.elim
/-! ### tests -/
theorem w_tV {f : Env → M D} {Q : Bool → Sto → Prop} (w : wp (f σ) S (fun x S1 => wt (tru x S1) fun b => Q b S1) E) : wp (tV f σ) S Q E :=
  wp_bnd (w.imp (fun d S1 z => by obtain ⟨b, e, z⟩ := z; unfold wp truM; rw [e]; exact z) fun _ _ z => z)
theorem w_tN {t : Env → M Bool} {Q : Bool → Sto → Prop} (w : wp (t σ) S (fun b S1 => Q (!b) S1) E) : wp (tNotM t σ) S Q E := wp_bnd w
theorem w_tA {t u : Env → M Bool} {Q : Bool → Sto → Prop} (w : wp (t σ) S (fun b S1 => wQ b (wp (u σ) S1 Q E) (Q false S1)) E) : wp (tAndM t u σ) S Q E :=
  wp_bnd (w.imp (fun b _ z => by cases b <;> exact z) fun _ _ z => z)
theorem w_tO {t u : Env → M Bool} {Q : Bool → Sto → Prop} (w : wp (t σ) S (fun b S1 => wQ b (Q true S1) (wp (u σ) S1 Q E)) E) : wp (tOrM t u σ) S Q E :=
  wp_bnd (w.imp (fun b _ z => by cases b <;> exact z) fun _ _ z => z)
theorem w_tY {Q : Bool → Sto → Prop} (h : Q true S) : wp (tYesM σ) S Q E := h
theorem w_sl {f : Env → M D} {lo hi : OE} (w : wp (f σ) S (fun x S1 => wp (oM lo σ) S1 (fun l S2 => wp (oM hi σ) S2 (fun h S3 => wo (fSl x l h S3) Q) E) E) E) : wp (eSl f lo hi σ) S Q E :=
  wp_bnd (w.imp (fun _ _ z => wp_bnd (z.imp (fun _ _ z => wp_bnd (z.imp (fun _ _ z => wp_up z) fun _ _ z => z)) fun _ _ z => z)) fun _ _ z => z)
theorem w_oN {Q : Option Int → Sto → Prop} (h : Q none S) : wp (oM none σ) S Q E := h
theorem w_oS {g : Env → M D} {Q : Option Int → Sto → Prop} (w : wp (g σ) S (fun d S1 => wt (asInt d) fun i => Q (some i) S1) E) : wp (oM (some g) σ) S Q E :=
  wp_bnd (w.imp (fun d _ z => by
    obtain ⟨b, e, z⟩ := z
    cases d with
    | int c => cases e; exact z
    | _ => cases e) fun _ _ z => z)
theorem w_m {h : D → FL} {f : Env → M D} {g : Env → M (List D)} (w : wp (f σ) S (fun x S1 => wp (chkL x) S1 (fun _ S2 => wp (g σ) S2 (fun ds S3 => wo (h x ds S3) Q) E) E) E) : wp (eM h f g σ) S Q E :=
  wp_bnd (w.imp (fun _ _ z => wp_bnd (z.imp (fun _ _ z => wp_bnd (z.imp (fun _ _ z => wp_up z) fun _ _ z => z)) fun _ _ z => z)) fun _ _ z => z)
theorem w_chkL {n : Nat} {xs : List D} {Q : Unit → Sto → Prop} (e : S.get n = some (.lst xs)) (h : Q () S) : wp (chkL (.loc n)) S Q E := by
  have e2 : lstAt S n = some xs := by unfold lstAt; rw [e]
  unfold wp chkL
  simp only [e2]
  exact h
theorem wQ_t {b : Bool} (e : b = true) (h : A) : wQ b A B := by unfold wQ; rw [if_pos e]; exact h
theorem wQ_f {b : Bool} (e : b = false) (h : B) : wQ b A B := by unfold wQ; rw [if_neg (by rw [e]; decide)]; exact h
theorem wQ_c {b : Bool} (h1 : b = true → A) (h2 : b = false → B) : wQ b A B := by
  cases b with
  | true => exact h1 rfl
  | false => exact h2 rfl
theorem wB_t {b : Bool} (e : b = true) (h : A) : wB (.bl b) A B := by subst e; exact h
theorem wB_f {b : Bool} (e : b = false) (h : B) : wB (.bl b) A B := by subst e; exact h
theorem wB_c {b : Bool} (h1 : b = true → A) (h2 : b = false → B) : wB (.bl b) A B := by
  cases b with
  | true => exact h1 rfl
  | false => exact h2 rfl
/-! ### statements -/
theorem ws.imp {g : Sm} (h : ws g σ S R) (q : ∀ fl σ' S', R fl σ' S' → R' fl σ' S') : ws g σ S R' := by
  unfold ws at h ⊢
  cases z : g σ S with
  | ok p S1 => obtain ⟨fl, σ1⟩ := p; rw [z] at h; exact q _ _ _ h
  | exc x S1 => rw [z] at h; exact h
  | bad => rw [z] at h; exact h
theorem ws_nil (h : R .nx σ S) : ws sNil σ S R := h
theorem ws_seq {a b : Sm} (h : ws a σ S (sq b R)) : ws (sSeq a b) σ S R := by
  unfold ws at h ⊢
  unfold sSeq
  cases z : a σ S with
  | ok p S1 =>
    obtain ⟨fl, σ1⟩ := p
    rw [z] at h
    cases fl <;> exact h
  | exc x S1 => rw [z] at h; exact h
  | bad => rw [z] at h; exact h
theorem wm_sE {m : M α} {k : α → M (Fl × Env)} (h : wp m S (fun a S1 => wm (k a) S1 R) fun x S1 => R (.xc x) σ S1) : wm (sE m σ k) S R := by
  unfold wp at h
  unfold wm sE
  cases z : m S with
  | ok p S1 => rw [z] at h; exact h
  | exc x S1 => rw [z] at h; exact h
  | bad => rw [z] at h; exact h
theorem ws_ret {f : Env → M D} (h : wp (f σ) S (fun d S1 => R (.rt d) σ S1) fun x S1 => R (.xc x) σ S1) : ws (sRet f) σ S R := wm_sE h
theorem ws_retN (h : R (.rt .non) σ S) : ws sRetN σ S R := h
theorem ws_drop {f : Env → M D} (h : wp (f σ) S (fun _ S1 => R .nx σ S1) fun x S1 => R (.xc x) σ S1) : ws (sDrop f) σ S R := wm_sE h
theorem ws_set {i : Nat} {f : Env → M D} (h : wp (f σ) S (fun d S1 => R .nx (σ.set i (some d)) S1) fun x S1 => R (.xc x) σ S1) : ws (sSet i f) σ S R := wm_sE h
theorem ws_if {t : Env → M Bool} {a b : Sm} (h : wp (t σ) S (fun c S1 => wQ c (ws a σ S1 R) (ws b σ S1 R)) fun x S1 => R (.xc x) σ S1) : ws (sIf t a b) σ S R :=
  wm_sE (h.imp (fun c _ z => by cases c <;> exact z) fun _ _ z => z)
theorem ws_un {t : Tg} {f : Env → M D} (h : wp (f σ) S (fun d S1 => wt (t d σ) fun σ' => R .nx σ' S1) fun x S1 => R (.xc x) σ S1) : ws (sUn t f) σ S R :=
  wm_sE (h.imp (fun d _ z => by obtain ⟨σ', e, z⟩ := z; rw [e]; exact z) fun _ _ z => z)
theorem ws_par {i j : Nat} {g : Env → M (List D)} (h : wp (g σ) S (fun ds S1 => wt (as2 ds) fun p => R .nx ((σ.set i (some p.1)).set j (some p.2)) S1) fun x S1 => R (.xc x) σ S1) : ws (sPar i j g) σ S R :=
  wm_sE (h.imp (fun d _ z => by
    obtain ⟨p, e, z⟩ := z
    match d, e with
    | [a, b], e => cases e; exact z) fun _ _ z => z)
theorem ws_par3 {i j l : Nat} {g : Env → M (List D)} (h : wp (g σ) S (fun ds S1 => wt (as3 ds) fun p => R .nx (((σ.set i (some p.1)).set j (some p.2.1)).set l (some p.2.2)) S1) fun x S1 => R (.xc x) σ S1) : ws (sPar3 i j l g) σ S R :=
  wm_sE (h.imp (fun d _ z => by
    obtain ⟨p, e, z⟩ := z
    match d, e with
    | [a, b, c], e => cases e; exact z) fun _ _ z => z)
theorem ws_sub {fo fi fe : Env → M D} (h : wp (fe σ) S (fun v S1 => wp (fo σ) S1 (fun x S2 => wp (fi σ) S2 (fun i S3 => wt (fPut x i v S3) fun S4 => R .nx σ S4) fun x S1 => R (.xc x) σ S1) fun x S1 => R (.xc x) σ S1) fun x S1 => R (.xc x) σ S1) : ws (sSub fo fi fe) σ S R :=
  wm_sE (h.imp (fun d _ z => wm_sE (z.imp (fun _ _ z => wm_sE (z.imp (fun _ _ z => by obtain ⟨S4, e, z⟩ := z; unfold wm; simp only [e]; exact z) fun _ _ z => z)) fun _ _ z => z)) fun _ _ z => z)
theorem ws_raise {x : Str} {fs : List Str} {g : Env → M (List D)} (h : wp (g σ) S (fun ds S1 => ds.length = fs.length ∧ R (.xc ⟨x, fs.reverse, ds.reverse⟩) σ S1) fun x S1 => R (.xc x) σ S1) : ws (sRaise x fs g) σ S R :=
  wm_sE (h.imp (fun d _ z => by
    have e : Nat.beq d.length fs.length = true := by rw [z.1]; exact Nat.beq_refl _
    unfold wm
    simp only [e]
    exact z.2) fun _ _ z => z)
def tr (sub : Str → Str → Option Bool) (hs : List Hd) (R : Rs) : Rs := fun fl σ S => match fl with
  | .nx => R .nx σ S
  | .bk => R .bk σ S
  | .ct => R .ct σ S
  | .rt d => R (.rt d) σ S
  | .xc x => wm (runH sub x hs σ) S R
theorem tr_nx {sub : Str → Str → Option Bool} {hs : List Hd} (h : R .nx σ S) : tr sub hs R .nx σ S := h
theorem tr_rt {sub : Str → Str → Option Bool} {hs : List Hd} {d : D} (h : R (.rt d) σ S) : tr sub hs R (.rt d) σ S := h
theorem tr_xc {sub : Str → Str → Option Bool} {hs : List Hd} {x : Xc} (h : wm (runH sub x hs σ) S R) : tr sub hs R (.xc x) σ S := h
theorem ws_try {sub : Str → Str → Option Bool} {b : Sm} {hs : List Hd} (h : ws b σ S (tr sub hs R)) : ws (sTry sub b hs) σ S R := by
  unfold ws at h ⊢
  unfold sTry
  cases z : b σ S with
  | ok p S1 =>
    obtain ⟨fl, σ1⟩ := p
    rw [z] at h
    cases fl <;> exact h
  | exc x S1 => rw [z] at h; exact h
  | bad => rw [z] at h; exact h
/-! ### calls -/
theorem call_go {bs : Nat → Option Bd} {k i n len : Nat} {b : Orc → Sm} {ds : List D} (hb : bs i = some ⟨n, len, b⟩) (hl : Nat.beq ds.length n = true) (hs : ds.map some ++ List.replicate (len - n) none = σ) (h : ws (b (callZ bs k)) σ S (fz Q E)) : wp (callZ bs (k + 1) i ds) S Q E := by
  subst hs
  unfold wp
  have e : callZ bs (k + 1) i ds = runZ n len (b (callZ bs k)) ds := by
    show (match bs i with
      | some d => runZ d.n d.len (d.b (callZ bs k)) ds
      | none => bad) = _
    rw [hb]
  rw [e]
  unfold runZ
  simp only [hl]
  unfold ws at h
  cases z : b (callZ bs k) (ds.map some ++ List.replicate (len - n) none) S with
  | ok p S1 =>
    obtain ⟨fl, σ1⟩ := p
    rw [z] at h
    cases fl <;> exact h
  | exc x S1 => rw [z] at h; exact h.elim
  | bad => rw [z] at h; exact h.elim
end

/-! ### stores that grow -/
/-- S' has what S has, but for the objects ex -/
structure Gx (ex : List Nat) (S S' : Sto) : Prop where
  le : S.n ≤ S'.n
  at_ : ∀ i, i < S.n → i ∉ ex → S'.get i = S.get i
abbrev Gr := Gx []
section
variable {ex ex' : List Nat} {S S1 S2 : Sto} {i : Nat} {o : O}
theorem Gx.refl (ex : List Nat) (S : Sto) : Gx ex S S := ⟨Nat.le_refl _, fun _ _ _ => rfl⟩
theorem Gx.trans (a : Gx ex S S1) (b : Gx ex S1 S2) : Gx ex S S2 := ⟨Nat.le_trans a.le b.le, fun i h n => (b.at_ i (Nat.lt_of_lt_of_le h a.le) n).trans (a.at_ i h n)⟩
theorem Gx.wide (a : Gx ex S S1) (h : ∀ i ∈ ex, i < S.n → i ∈ ex') : Gx ex' S S1 := ⟨a.le, fun i hi n => a.at_ i hi fun z => n (h i z hi)⟩
theorem Gx.get (a : Gx ex S S1) (h : S.get i = some o) (n : i ∉ ex) : S1.get i = some o := (a.at_ i (Sto.lt_of h) n).trans h
theorem Gr.get (a : Gr S S1) (h : S.get i = some o) : S1.get i = some o := Gx.get a h (by simp)
theorem Gx.push (o : O) (a : Gx ex S S1) : Gx ex S (S1.push o) := ⟨Nat.le_succ_of_le a.le, fun i h n => (Sto.get_push_lt (Nat.lt_of_lt_of_le h a.le)).trans (a.at_ i h n)⟩
theorem Gx.set (a : Gx ex S S1) (h : i ∈ ex ∨ S.n ≤ i) (hi : i < S1.n) (o : O) : Gx ex S (S1.set i o) := ⟨a.le, fun j hj n => by
  have hne : j ≠ i := fun z => by
    subst z
    rcases h with h | h
    · exact n h
    · omega
  exact (Sto.get_set_ne hne hi).trans (a.at_ j hj n)⟩
theorem Gx.any (a : Gx [] S S1) (ex : List Nat) : Gx ex S S1 := a.wide fun _ h => by cases h
end

/-! ### loops -/
section
variable {S : Sto} {σ : Env} {R : Rs} {E : Xc → Sto → Prop} {Q : D → Sto → Prop}
theorem w_isq {f : Env → M D} {Q : Itm → Sto → Prop} (w : wp (f σ) S (fun d S1 => wt (itOf d S1) fun it => Q it S1) E) : wp (iSeq f σ) S Q E :=
  wp_bnd (w.imp (fun d S1 z => by obtain ⟨it, e, z⟩ := z; unfold wp upI; rw [e]; exact z) fun _ _ z => z)
theorem w_irng1 {g : Env → M (List D)} {Q : Itm → Sto → Prop} (w : wp (g σ) S (fun d S1 => wt (itRng1 d S1) fun it => Q it S1) E) : wp (iRng1' g σ) S Q E :=
  wp_bnd (w.imp (fun d S1 z => by obtain ⟨it, e, z⟩ := z; unfold wp upI; rw [e]; exact z) fun _ _ z => z)
theorem w_irng2 {g : Env → M (List D)} {Q : Itm → Sto → Prop} (w : wp (g σ) S (fun d S1 => wt (itRng2 d S1) fun it => Q it S1) E) : wp (iRng2' g σ) S Q E :=
  wp_bnd (w.imp (fun d S1 z => by obtain ⟨it, e, z⟩ := z; unfold wp upI; rw [e]; exact z) fun _ _ z => z)
theorem w_ienm {g : Env → M (List D)} {Q : Itm → Sto → Prop} (w : wp (g σ) S (fun d S1 => wt (itEnm d S1) fun it => Q it S1) E) : wp (iEnm g σ) S Q E :=
  wp_bnd (w.imp (fun d S1 z => by obtain ⟨it, e, z⟩ := z; unfold wp upI; rw [e]; exact z) fun _ _ z => z)
theorem w_ienmK {g : Env → M (List D)} {Q : Itm → Sto → Prop} (w : wp (g σ) S (fun d S1 => wt (itEnmK d S1) fun it => Q it S1) E) : wp (iEnmK g σ) S Q E :=
  wp_bnd (w.imp (fun d S1 z => by obtain ⟨it, e, z⟩ := z; unfold wp upI; rw [e]; exact z) fun _ _ z => z)
theorem w_izp {g : Env → M (List D)} {Q : Itm → Sto → Prop} (w : wp (g σ) S (fun d S1 => wt (itZip d S1) fun it => Q it S1) E) : wp (iZp g σ) S Q E :=
  wp_bnd (w.imp (fun d S1 z => by obtain ⟨it, e, z⟩ := z; unfold wp upI; rw [e]; exact z) fun _ _ z => z)
theorem ws_for {src : Env → M Itm} {t : Tg} {b : Sm} (h : wp (src σ) S (fun it S1 => wm (forL it t b (cnt it S1) 0 σ) S1 R) fun x S1 => R (.xc x) σ S1) : ws (sFor src t b) σ S R := wm_sE h
/-- what a turn's body is asked -/
def lp (I : Env → Sto → Prop) (R : Rs) : Rs := fun fl σ S => match fl with
  | .nx => I σ S
  | .ct => I σ S
  | .bk => R .nx σ S
  | .rt d => R (.rt d) σ S
  | .xc x => R (.xc x) σ S
/-- a for by its invariant: it yields xs in turn -/
theorem forL_inv {it : Itm} {t : Tg} {b : Sm} (xs : List D) (I : Nat → Env → Sto → Prop) (hy : ∀ i σ S, I i σ S → i ≤ xs.length → nxt it i S = some xs[i]?)
    (hs : ∀ i x σ S, xs[i]? = some x → I i σ S → wt (t x σ) fun σ1 => ws b σ1 S (lp (I (i + 1)) R)) (he : ∀ σ S, I xs.length σ S → R .nx σ S) :
    ∀ n i σ S, i ≤ xs.length → xs.length < i + n → I i σ S → wm (forL it t b n i σ) S R
  | 0, i, σ, S, hi, hn, h => by omega
  | n + 1, i, σ, S, hi, hn, h => by
    have e := hy i σ S h hi
    unfold wm forL
    rw [e]
    cases hx : xs[i]? with
    | none =>
      have hl : xs.length ≤ i := List.getElem?_eq_none_iff.mp hx
      have : i = xs.length := by omega
      subst this
      exact he σ S h
    | some x =>
      have hl : i < xs.length := by
        by_cases q : i < xs.length
        · exact q
        · rw [List.getElem?_eq_none (by omega)] at hx; cases hx
      obtain ⟨σ1, e1, w1⟩ := hs i x σ S hx h
      simp only [e1]
      unfold ws at w1
      cases z : b σ1 S with
      | ok p S1 =>
        obtain ⟨fl, σ2⟩ := p
        rw [z] at w1
        cases fl with
        | nx => exact forL_inv xs I hy hs he n (i + 1) σ2 S1 hl (by omega) w1
        | ct => exact forL_inv xs I hy hs he n (i + 1) σ2 S1 hl (by omega) w1
        | bk => exact w1
        | rt d => exact w1
        | xc x => exact w1
      | exc x S1 => rw [z] at w1; exact w1.elim
      | bad => rw [z] at w1; exact w1.elim
/-- over a tuple -/
theorem for_fix {t : Tg} {b : Sm} {xs : List D} (I : Nat → Env → Sto → Prop) (h0 : I 0 σ S)
    (hs : ∀ i x σ S, xs[i]? = some x → I i σ S → wt (t x σ) fun σ1 => ws b σ1 S (lp (I (i + 1)) R)) (he : ∀ σ S, I xs.length σ S → R .nx σ S) :
    wm (forL (.fix xs) t b (cnt (.fix xs) S) 0 σ) S R := forL_inv xs I (fun _ _ _ _ _ => rfl) hs he _ 0 σ S (Nat.zero_le _) (by simp only [cnt]; omega) h0
/-- over a list of the store, which stays -/
theorem for_lst {t : Tg} {b : Sm} {n : Nat} {xs : List D} (I : Nat → Env → Sto → Prop) (hl : ∀ i σ S, I i σ S → lstAt S n = some xs) (h0 : I 0 σ S)
    (hs : ∀ i x σ S, xs[i]? = some x → I i σ S → wt (t x σ) fun σ1 => ws b σ1 S (lp (I (i + 1)) R)) (he : ∀ σ S, I xs.length σ S → R .nx σ S) :
    wm (forL (.lst n) t b (cnt (.lst n) S) 0 σ) S R := forL_inv xs I (fun i σ S h _ => by simp only [nxt, hl i σ S h, Option.map_some]) hs he _ 0 σ S (Nat.zero_le _) (by simp only [cnt, hl 0 σ S h0, Option.getD_some]; omega) h0
def rngL (lo : Int) (n : Nat) : List D := (List.range n).map fun i => .int (lo + (i : Nat))
theorem rngL_len (lo : Int) (n : Nat) : (rngL lo n).length = n := by simp [rngL]
theorem rngL_get (lo : Int) (n i : Nat) : (rngL lo n)[i]? = if i < n then some (.int (lo + (i : Nat))) else none := by
  unfold rngL
  by_cases h : i < n
  · simp [h]
  · simp [h]
theorem nxt_rng {lo : Int} {n i : Nat} {S : Sto} : nxt (.rng lo n) i S = some (rngL lo n)[i]? := by
  rw [rngL_get]
  by_cases h : i < n
  · simp only [nxt, blt_t h, if_pos h]
  · simp only [nxt, blt_f h, if_neg h]
/-- over a range -/
theorem for_rng {t : Tg} {b : Sm} {lo : Int} {n : Nat} (I : Nat → Env → Sto → Prop) (h0 : I 0 σ S)
    (hs : ∀ (i : Nat) σ S, i < n → I i σ S → wt (t (.int (lo + i)) σ) fun σ1 => ws b σ1 S (lp (I (i + 1)) R)) (he : ∀ σ S, I n σ S → R .nx σ S) :
    wm (forL (.rng lo n) t b (cnt (.rng lo n) S) 0 σ) S R := by
  refine forL_inv (rngL lo n) I (fun _ _ _ _ _ => nxt_rng) ?_ (by rw [rngL_len]; exact he) _ 0 σ S (Nat.zero_le _) (by simp only [cnt, rngL_len]; omega) h0
  intro i x σ S e h
  rw [rngL_get] at e
  by_cases q : i < n
  · rw [if_pos q] at e
    cases e
    exact hs i σ S q h
  · rw [if_neg q] at e; cases e
theorem enumZ_get (xs : List D) (k : Int) (i : Nat) : (xs.zipIdx.map fun p => D.tup [.int (k + (p.2 : Nat)), p.1])[i]? = xs[i]?.map fun x => .tup [.int (k + (i : Nat)), x] := by
  rw [List.getElem?_map, List.getElem?_zipIdx]
  cases xs[i]? <;> simp
/-- over the pairs of a number and an item of a list of the store, which stays -/
theorem for_enm {t : Tg} {b : Sm} {n : Nat} {xs : List D} (I : Nat → Env → Sto → Prop) (hl : ∀ i σ S, I i σ S → lstAt S n = some xs) (h0 : I 0 σ S)
    (hs : ∀ (i : Nat) x σ S, xs[i]? = some x → I i σ S → wt (t (.tup [.int (i : Nat), x]) σ) fun σ1 => ws b σ1 S (lp (I (i + 1)) R)) (he : ∀ σ S, I xs.length σ S → R .nx σ S) :
    wm (forL (.enm n) t b (cnt (.enm n) S) 0 σ) S R := by
  have hlen : (xs.zipIdx.map fun p => D.tup [.int (0 + (p.2 : Nat)), p.1]).length = xs.length := by simp
  refine forL_inv (xs.zipIdx.map fun p => D.tup [.int (0 + (p.2 : Nat)), p.1]) I (fun i σ S h _ => ?_) ?_ (by rw [hlen]; exact he) _ 0 σ S (Nat.zero_le _) (by simp only [cnt, hl 0 σ S h0, Option.getD_some, hlen]; omega) h0
  · rw [enumZ_get]
    simp only [nxt, hl i σ S h, Option.map_some, Int.zero_add]
  · intro i x σ S e h
    rw [enumZ_get] at e
    cases q : xs[i]? with
    | none => rw [q] at e; cases e
    | some y =>
      rw [q] at e
      simp only [Option.map_some, Option.some.injEq, Int.zero_add] at e
      subst e
      exact hs i y σ S q h
/-! ### while -/
theorem wm_ret {p : Fl × Env} (h : R p.1 p.2 S) : wm (ret p) S R := h
theorem whL_inv {t : Env → M Bool} {b : Sm} (I : Env → Sto → Prop) (μ : Env → Sto → Nat)
    (hs : ∀ σ S, I σ S → wp (t σ) S (fun c S1 => wQ c (ws b σ S1 (lp (fun σ' S' => I σ' S' ∧ μ σ' S' < μ σ S) R)) (R .nx σ S1)) fun x S1 => R (.xc x) σ S1) :
    ∀ n σ S, μ σ S < n → I σ S → wm (whL t b n σ) S R
  | 0, σ, S, hn, h => by omega
  | n + 1, σ, S, hn, h => by
    unfold whL
    refine wm_sE ((hs σ S h).imp (fun c S1 z => ?_) fun _ _ z => z)
    cases c with
    | false => exact z
    | true =>
      have z1 : ws b σ S1 (lp (fun σ' S' => I σ' S' ∧ μ σ' S' < μ σ S) R) := z
      unfold ws at z1
      unfold wm
      dsimp only
      cases q : b σ S1 with
      | ok p S2 =>
        obtain ⟨fl, σ2⟩ := p
        rw [q] at z1
        cases fl with
        | nx => exact whL_inv I μ hs n σ2 S2 (by have := z1.2; omega) z1.1
        | ct => exact whL_inv I μ hs n σ2 S2 (by have := z1.2; omega) z1.1
        | bk => exact z1
        | rt d => exact z1
        | xc x => exact z1
      | exc x S2 => rw [q] at z1; exact z1.elim
      | bad => rw [q] at z1; exact z1.elim
theorem ws_while {n : Nat} {t : Env → M Bool} {b : Sm} (I : Env → Sto → Prop) (μ : Env → Sto → Nat) (h0 : I σ S) (hm : μ σ S < n)
    (hs : ∀ σ S, I σ S → wp (t σ) S (fun c S1 => wQ c (ws b σ S1 (lp (fun σ' S' => I σ' S' ∧ μ σ' S' < μ σ S) R)) (R .nx σ S1)) fun x S1 => R (.xc x) σ S1) : ws (sWhile n t b) σ S R := whL_inv I μ hs n σ S hm h0
/-! ### list comprehensions -/
def wl (it : Itm) (t : Tg) (tt : Env → M Bool) (f : Env → M D) (σ : Env) (S : Sto) (Q : D → Sto → Prop) : Prop := match lcL it t tt f S.n σ (cnt it S) 0 (S.push (.lst [])) with
  | .ok _ S' => Q (.loc S.n) S'
  | _ => False
theorem w_lc {vs : List Nat} {src : Env → M Itm} {t : Tg} {tt : Env → M Bool} {f : Env → M D} (w : wp (src σ) S (fun it S1 => wl it t tt f (wipeE σ vs) S1 Q) E) : wp (eLc vs src t tt f σ) S Q E := by
  refine wp_bnd (w.imp (fun it S1 z => ?_) fun _ _ z => z)
  unfold wl at z
  unfold wp
  dsimp only
  cases q : lcL it t tt f S1.n (wipeE σ vs) (cnt it S1) 0 (S1.push (.lst [])) with
  | ok u S2 => rw [q] at z; exact z
  | exc x S2 => rw [q] at z; exact z.elim
  | bad => rw [q] at z; exact z.elim
/-- by its invariant: I i acc S, the new list at n holding acc -/
theorem lcL_inv {it : Itm} {t : Tg} {tt : Env → M Bool} {f : Env → M D} {n : Nat} {P : Sto → Prop} (xs : List D) (I : Nat → List D → Sto → Prop) (hy : ∀ i acc S, I i acc S → i ≤ xs.length → nxt it i S = some xs[i]?) (hz : xs.length ≤ sizeLine)
    (hs : ∀ i x acc S, xs[i]? = some x → I i acc S → S.get n = some (.lst acc) → wt (t x σ) fun σ1 =>
      wp (tt σ1) S (fun c S1 => wQ c (wp (f σ1) S1 (fun y S2 => S2.get n = some (.lst acc) ∧ ((S2.set n (.lst (acc ++ [y]))).get n = some (.lst (acc ++ [y])) → I (i + 1) (acc ++ [y]) (S2.set n (.lst (acc ++ [y]))))) noX) (S1.get n = some (.lst acc) ∧ I (i + 1) acc S1)) noX)
    (he : ∀ acc S, I xs.length acc S → S.get n = some (.lst acc) → P S) :
    ∀ k i acc S, i ≤ xs.length → xs.length < i + k → acc.length ≤ i → I i acc S → S.get n = some (.lst acc) → ∃ u S', lcL it t tt f n σ k i S = .ok u S' ∧ P S'
  | 0, i, acc, S, hi, hk, ha, h, g => by omega
  | k + 1, i, acc, S, hi, hk, ha, h, g => by
    have e := hy i acc S h hi
    unfold lcL
    rw [e]
    cases hx : xs[i]? with
    | none =>
      have hl : xs.length ≤ i := List.getElem?_eq_none_iff.mp hx
      have : i = xs.length := by omega
      subst this
      exact ⟨(), S, rfl, he acc S h g⟩
    | some x =>
      have hl : i < xs.length := by
        by_cases q : i < xs.length
        · exact q
        · rw [List.getElem?_eq_none (by omega)] at hx; cases hx
      obtain ⟨σ1, e1, w1⟩ := hs i x acc S hx h g
      obtain ⟨c, S1, e2, w2⟩ := w1.ok
      simp only [e1, e2]
      cases c with
      | false => exact lcL_inv xs I hy hz hs he k (i + 1) acc S1 hl (by omega) (by omega) w2.2 w2.1
      | true =>
        have w3 : wp (f σ1) S1 _ noX := w2
        obtain ⟨y, S2, e3, g2, w4⟩ := w3.ok
        have e4 : Nat.blt acc.length sizeLine = true := blt_t (by omega)
        simp only [e3, g2, e4]
        exact lcL_inv xs I hy hz hs he k (i + 1) (acc ++ [y]) _ hl (by omega) (by simp; omega) (w4 (Sto.get_set g2)) (Sto.get_set g2)
theorem lc_inv {it : Itm} {t : Tg} {tt : Env → M Bool} {f : Env → M D} (xs : List D) (I : Nat → List D → Sto → Prop) (hy : ∀ i acc S, I i acc S → i ≤ xs.length → nxt it i S = some xs[i]?) (hc : cnt it S = xs.length + 1) (hz : xs.length ≤ sizeLine) (h0 : I 0 [] (S.push (.lst [])))
    (hs : ∀ i x acc S1, xs[i]? = some x → I i acc S1 → S1.get S.n = some (.lst acc) → wt (t x σ) fun σ1 =>
      wp (tt σ1) S1 (fun c S1 => wQ c (wp (f σ1) S1 (fun y S2 => S2.get S.n = some (.lst acc) ∧ ((S2.set S.n (.lst (acc ++ [y]))).get S.n = some (.lst (acc ++ [y])) → I (i + 1) (acc ++ [y]) (S2.set S.n (.lst (acc ++ [y]))))) noX) (S1.get S.n = some (.lst acc) ∧ I (i + 1) acc S1)) noX)
    (he : ∀ acc S1, I xs.length acc S1 → S1.get S.n = some (.lst acc) → Q (.loc S.n) S1) : wl it t tt f σ S Q := by
  obtain ⟨u, S', e, p⟩ := lcL_inv (P := Q (.loc S.n)) xs I hy hz hs he (cnt it S) 0 [] (S.push (.lst [])) (Nat.zero_le _) (by omega) (Nat.zero_le _) h0 (Sto.get_push _ _)
  unfold wl
  rw [e]
  exact p
/-- of values alone: each item's test and value are told, the store grows -/
theorem lc_pure {it : Itm} {t : Tg} {tt : Env → M Bool} {f : Env → M D} (xs : List D) (p : D → Bool) (g : D → D) (hy : ∀ i S1, Gr S S1 → i ≤ xs.length → nxt it i S1 = some xs[i]?) (hc : cnt it S = xs.length + 1) (hz : xs.length ≤ sizeLine)
    (hs : ∀ (i : Nat) x S1, xs[i]? = some x → Gr S S1 → wt (t x σ) fun σ1 => wp (tt σ1) S1 (fun c S2 => c = p x ∧ Gr S1 S2 ∧ (p x = true → wp (f σ1) S2 (fun y S3 => y = g x ∧ Gr S2 S3) noX)) noX)
    (he : ∀ S1, Gr S S1 → S.n < S1.n → S1.get S.n = some (.lst ((xs.filter p).map g)) → Q (.loc S.n) S1) : wl it t tt f σ S Q := by
  refine lc_inv xs (fun i acc S1 => acc = ((xs.take i).filter p).map g ∧ Gr S S1 ∧ S.n < S1.n) (fun i acc S1 h hi => hy i S1 h.2.1 hi) hc hz ⟨rfl, (Gx.refl [] S).push _, by simp⟩ ?_ ?_
  · intro i x acc S1 hx h g1
    obtain ⟨h1, h2, h3⟩ := h
    obtain ⟨σ1, e1, w1⟩ := hs i x S1 hx h2
    have hl : i < xs.length := by
      by_cases q : i < xs.length
      · exact q
      · rw [List.getElem?_eq_none (by omega)] at hx; cases hx
    have htk : xs.take (i + 1) = xs.take i ++ [x] := by
      rw [List.take_succ, hx]; rfl
    refine ⟨σ1, e1, w1.use fun c S2 z => ?_⟩
    obtain ⟨rfl, gr, w2⟩ := z
    refine wQ_c (fun hp => ?_) (fun hp => ⟨gr.get g1, ?_, h2.trans gr, Nat.lt_of_lt_of_le h3 gr.le⟩)
    · refine (w2 hp).use fun y S3 z => ?_
      obtain ⟨rfl, gr3⟩ := z
      have g3 := gr3.get (gr.get g1)
      refine ⟨g3, fun _ => ⟨?_, ?_, ?_⟩⟩
      · rw [htk, List.filter_append, List.map_append, h1]
        simp [hp]
      · exact ((h2.trans gr).trans gr3).set (.inr (Nat.le_refl _)) (Sto.lt_of g3) _
      · exact Nat.lt_of_lt_of_le h3 (Nat.le_trans gr.le gr3.le)
    · rw [htk, List.filter_append, List.map_append, h1]
      simp [hp]
  · intro acc S1 h g1
    obtain ⟨h1, h2, h3⟩ := h
    rw [List.take_length] at h1
    rw [h1] at g1
    exact he S1 h2 h3 g1
theorem lc_fix {t : Tg} {tt : Env → M Bool} {f : Env → M D} {xs : List D} (p : D → Bool) (g : D → D) (hz : xs.length ≤ sizeLine)
    (hs : ∀ (i : Nat) x S1, xs[i]? = some x → Gr S S1 → wt (t x σ) fun σ1 => wp (tt σ1) S1 (fun c S2 => c = p x ∧ Gr S1 S2 ∧ (p x = true → wp (f σ1) S2 (fun y S3 => y = g x ∧ Gr S2 S3) noX)) noX)
    (he : ∀ S1, Gr S S1 → S.n < S1.n → S1.get S.n = some (.lst ((xs.filter p).map g)) → Q (.loc S.n) S1) : wl (.fix xs) t tt f σ S Q := lc_pure xs p g (fun _ _ _ _ => rfl) rfl hz hs he
theorem lc_rng {t : Tg} {tt : Env → M Bool} {f : Env → M D} {lo : Int} {n : Nat} (p : D → Bool) (g : D → D) (hz : n ≤ sizeLine)
    (hs : ∀ (i : Nat) S1, i < n → Gr S S1 → wt (t (.int (lo + i)) σ) fun σ1 => wp (tt σ1) S1 (fun c S2 => c = p (.int (lo + i)) ∧ Gr S1 S2 ∧ (p (.int (lo + i)) = true → wp (f σ1) S2 (fun y S3 => y = g (.int (lo + i)) ∧ Gr S2 S3) noX)) noX)
    (he : ∀ S1, Gr S S1 → S.n < S1.n → S1.get S.n = some (.lst (((rngL lo n).filter p).map g)) → Q (.loc S.n) S1) : wl (.rng lo n) t tt f σ S Q := by
  refine lc_pure (rngL lo n) p g (fun _ _ _ _ => nxt_rng) (by simp only [cnt, rngL_len]) (by rw [rngL_len]; exact hz) ?_ he
  intro i x S1 hx gr
  rw [rngL_get] at hx
  by_cases q : i < n
  · rw [if_pos q] at hx; cases hx
    exact hs i S1 q gr
  · rw [if_neg q] at hx; cases hx
theorem lc_lst {t : Tg} {tt : Env → M Bool} {f : Env → M D} {n : Nat} {xs : List D} (p : D → Bool) (g : D → D) (hl : S.get n = some (.lst xs)) (hz : xs.length ≤ sizeLine)
    (hs : ∀ (i : Nat) x S1, xs[i]? = some x → Gr S S1 → wt (t x σ) fun σ1 => wp (tt σ1) S1 (fun c S2 => c = p x ∧ Gr S1 S2 ∧ (p x = true → wp (f σ1) S2 (fun y S3 => y = g x ∧ Gr S2 S3) noX)) noX)
    (he : ∀ S1, Gr S S1 → S.n < S1.n → S1.get S.n = some (.lst ((xs.filter p).map g)) → Q (.loc S.n) S1) : wl (.lst n) t tt f σ S Q := by
  have key : ∀ S1, Gr S S1 → lstAt S1 n = some xs := fun S1 gr => by unfold lstAt; rw [gr.get hl]
  exact lc_pure xs p g (fun i S1 gr _ => by simp only [nxt, key S1 gr, Option.map_some]) (by simp only [cnt, key S (Gx.refl [] S), Option.getD_some]) hz hs he
end
/-! ### list comprehensions over things that are told by a function -/
section
variable {α : Type} {S : Sto} {σ : Env} {Q : D → Sto → Prop}
theorem mapE {as : List α} {e : α → D} {i : Nat} {x : D} (h : (as.map e)[i]? = some x) : ∃ a, as[i]? = some a ∧ a ∈ as ∧ x = e a := by
  rw [List.getElem?_map] at h
  cases q : as[i]? with
  | none => rw [q] at h; cases h
  | some a =>
    rw [q] at h
    exact ⟨a, rfl, List.mem_of_getElem? q, (Option.some.inj h).symm⟩
theorem lc_ty {it : Itm} {t : Tg} {tt : Env → M Bool} {f : Env → M D} (as : List α) (e : α → D) (p : α → Bool) (g : α → D) (hy : ∀ i S1, Gr S S1 → nxt it i S1 = some (as.map e)[i]?) (hc : cnt it S = as.length + 1) (hz : as.length ≤ sizeLine)
    (hs : ∀ a ∈ as, ∀ S1, Gr S S1 → wt (t (e a) σ) fun σ1 => wp (tt σ1) S1 (fun c S2 => c = p a ∧ Gr S1 S2 ∧ (p a = true → wp (f σ1) S2 (fun y S3 => y = g a ∧ Gr S2 S3) noX)) noX)
    (he : ∀ S1, Gr S S1 → S.n < S1.n → S1.get S.n = some (.lst ((as.filter p).map g)) → Q (.loc S.n) S1) : wl it t tt f σ S Q := by
  refine lc_inv (as.map e) (fun i acc S1 => acc = ((as.take i).filter p).map g ∧ Gr S S1 ∧ S.n < S1.n) (fun i acc S1 h hi => hy i S1 h.2.1) (by rw [hc, List.length_map]) (by rw [List.length_map]; exact hz) ⟨rfl, (Gx.refl [] S).push _, by simp⟩ ?_ ?_
  · intro i x acc S1 hx h g1
    obtain ⟨h1, h2, h3⟩ := h
    obtain ⟨a, ha, hm, rfl⟩ := mapE hx
    obtain ⟨σ1, e1, w1⟩ := hs a hm S1 h2
    have htk : as.take (i + 1) = as.take i ++ [a] := by
      rw [List.take_succ, ha]; rfl
    refine ⟨σ1, e1, w1.use fun c S2 z => ?_⟩
    obtain ⟨rfl, gr, w2⟩ := z
    refine wQ_c (fun hp => ?_) (fun hp => ⟨gr.get g1, ?_, h2.trans gr, Nat.lt_of_lt_of_le h3 gr.le⟩)
    · refine (w2 hp).use fun y S3 z => ?_
      obtain ⟨rfl, gr3⟩ := z
      have g3 := gr3.get (gr.get g1)
      refine ⟨g3, fun _ => ⟨?_, ?_, ?_⟩⟩
      · rw [htk, List.filter_append, List.map_append, h1]
        simp [hp]
      · exact ((h2.trans gr).trans gr3).set (.inr (Nat.le_refl _)) (Sto.lt_of g3) _
      · exact Nat.lt_of_lt_of_le h3 (Nat.le_trans gr.le gr3.le)
    · rw [htk, List.filter_append, List.map_append, h1]
      simp [hp]
  · intro acc S1 h g1
    obtain ⟨h1, h2, h3⟩ := h
    rw [List.length_map, List.take_length] at h1
    rw [h1] at g1
    exact he S1 h2 h3 g1
theorem nxt_lst {n i : Nat} {xs : List D} {S1 : Sto} (hl : S.get n = some (.lst xs)) (gr : Gr S S1) : nxt (.lst n) i S1 = some xs[i]? := by
  have : lstAt S1 n = some xs := by unfold lstAt; rw [gr.get hl]
  simp only [nxt, this, Option.map_some]
theorem cnt_lst {n : Nat} {xs : List D} (hl : S.get n = some (.lst xs)) : cnt (.lst n) S = xs.length + 1 := by
  have : lstAt S n = some xs := by unfold lstAt; rw [hl]
  simp only [cnt, this, Option.getD_some]
theorem rngL_map (lo : Int) (n : Nat) : rngL lo n = (List.range n).map fun (i : Nat) => D.int (lo + i) := rfl
/-- with a test -/
theorem lc_F {t : Tg} {tt : Env → M Bool} {f : Env → M D} {as : List α} {e : α → D} (p : α → Bool) (g : α → D) (hz : as.length ≤ sizeLine)
    (hs : ∀ a ∈ as, ∀ S1, Gr S S1 → wt (t (e a) σ) fun σ1 => wp (tt σ1) S1 (fun c S2 => c = p a ∧ Gr S1 S2 ∧ (p a = true → wp (f σ1) S2 (fun y S3 => y = g a ∧ Gr S2 S3) noX)) noX)
    (he : ∀ S1, Gr S S1 → S.n < S1.n → S1.get S.n = some (.lst ((as.filter p).map g)) → Q (.loc S.n) S1) : wl (.fix (as.map e)) t tt f σ S Q := lc_ty as e p g (fun _ _ _ => rfl) (by simp only [cnt, List.length_map]) hz hs he
theorem lc_L {t : Tg} {tt : Env → M Bool} {f : Env → M D} {as : List α} {e : α → D} {n : Nat} (hl : S.get n = some (.lst (as.map e))) (p : α → Bool) (g : α → D) (hz : as.length ≤ sizeLine)
    (hs : ∀ a ∈ as, ∀ S1, Gr S S1 → wt (t (e a) σ) fun σ1 => wp (tt σ1) S1 (fun c S2 => c = p a ∧ Gr S1 S2 ∧ (p a = true → wp (f σ1) S2 (fun y S3 => y = g a ∧ Gr S2 S3) noX)) noX)
    (he : ∀ S1, Gr S S1 → S.n < S1.n → S1.get S.n = some (.lst ((as.filter p).map g)) → Q (.loc S.n) S1) : wl (.lst n) t tt f σ S Q := lc_ty as e p g (fun _ _ gr => nxt_lst hl gr) (by rw [cnt_lst hl, List.length_map]) hz hs he
theorem lc_R {t : Tg} {tt : Env → M Bool} {f : Env → M D} {lo : Int} {n : Nat} (p : Nat → Bool) (g : Nat → D) (hz : n ≤ sizeLine)
    (hs : ∀ (i : Nat), i < n → ∀ S1, Gr S S1 → wt (t (.int (lo + i)) σ) fun σ1 => wp (tt σ1) S1 (fun c S2 => c = p i ∧ Gr S1 S2 ∧ (p i = true → wp (f σ1) S2 (fun y S3 => y = g i ∧ Gr S2 S3) noX)) noX)
    (he : ∀ S1, Gr S S1 → S.n < S1.n → S1.get S.n = some (.lst (((List.range n).filter p).map g)) → Q (.loc S.n) S1) : wl (.rng lo n) t tt f σ S Q :=
  lc_ty (List.range n) (fun i => .int (lo + (i : Nat))) p g (fun _ _ _ => nxt_rng) (by simp only [cnt, List.length_range]) (by rw [List.length_range]; exact hz) (fun a ha => hs a (List.mem_range.mp ha)) he
/-- without a test -/
theorem lc_yes {it : Itm} {t : Tg} {f : Env → M D} (as : List α) (e : α → D) (g : α → D) (hy : ∀ i S1, Gr S S1 → nxt it i S1 = some (as.map e)[i]?) (hc : cnt it S = as.length + 1) (hz : as.length ≤ sizeLine)
    (hs : ∀ a ∈ as, ∀ S1, Gr S S1 → wt (t (e a) σ) fun σ1 => wp (f σ1) S1 (fun y S3 => y = g a ∧ Gr S1 S3) noX)
    (he : ∀ S1, Gr S S1 → S.n < S1.n → S1.get S.n = some (.lst (as.map g)) → Q (.loc S.n) S1) : wl it t tYesM f σ S Q := by
  refine lc_ty as e (fun _ => true) g hy hc hz (fun a ha S1 gr => ?_) (fun S1 g1 g2 g3 => he S1 g1 g2 (by rw [g3, List.filter_eq_self.mpr (fun _ _ => rfl)]))
  obtain ⟨σ1, e1, w⟩ := hs a ha S1 gr
  exact ⟨σ1, e1, w_tY ⟨rfl, Gx.refl _ _, fun _ => w⟩⟩
theorem lc_F1 {t : Tg} {f : Env → M D} {as : List α} {e : α → D} (g : α → D) (hz : as.length ≤ sizeLine)
    (hs : ∀ a ∈ as, ∀ S1, Gr S S1 → wt (t (e a) σ) fun σ1 => wp (f σ1) S1 (fun y S3 => y = g a ∧ Gr S1 S3) noX)
    (he : ∀ S1, Gr S S1 → S.n < S1.n → S1.get S.n = some (.lst (as.map g)) → Q (.loc S.n) S1) : wl (.fix (as.map e)) t tYesM f σ S Q := lc_yes as e g (fun _ _ _ => rfl) (by simp only [cnt, List.length_map]) hz hs he
theorem lc_L1 {t : Tg} {f : Env → M D} {as : List α} {e : α → D} {n : Nat} (hl : S.get n = some (.lst (as.map e))) (g : α → D) (hz : as.length ≤ sizeLine)
    (hs : ∀ a ∈ as, ∀ S1, Gr S S1 → wt (t (e a) σ) fun σ1 => wp (f σ1) S1 (fun y S3 => y = g a ∧ Gr S1 S3) noX)
    (he : ∀ S1, Gr S S1 → S.n < S1.n → S1.get S.n = some (.lst (as.map g)) → Q (.loc S.n) S1) : wl (.lst n) t tYesM f σ S Q := lc_yes as e g (fun _ _ gr => nxt_lst hl gr) (by rw [cnt_lst hl, List.length_map]) hz hs he
theorem lc_R1 {t : Tg} {f : Env → M D} {lo : Int} {n : Nat} (g : Nat → D) (hz : n ≤ sizeLine)
    (hs : ∀ (i : Nat), i < n → ∀ S1, Gr S S1 → wt (t (.int (lo + i)) σ) fun σ1 => wp (f σ1) S1 (fun y S3 => y = g i ∧ Gr S1 S3) noX)
    (he : ∀ S1, Gr S S1 → S.n < S1.n → S1.get S.n = some (.lst ((List.range n).map g)) → Q (.loc S.n) S1) : wl (.rng lo n) t tYesM f σ S Q :=
  lc_yes (List.range n) (fun i => .int (lo + (i : Nat))) g (fun _ _ _ => nxt_rng) (by simp only [cnt, List.length_range]) (by rw [List.length_range]; exact hz) (fun a ha => hs a (List.mem_range.mp ha)) he
theorem blsOf_map (bs : List Bool) : blsOf (bs.map .bl) = some bs := by
  induction bs with
  | nil => rfl
  | cons b bs ih => simp only [List.map_cons, blsOf, ih, Option.map_some]
theorem intsOf_map (bs : List Int) : intsOf (bs.map .int) = some bs := by
  induction bs with
  | nil => rfl
  | cons b bs ih => simp only [List.map_cons, intsOf, ih, Option.map_some]
theorem z_allM {n : Nat} {as : List α} {f : α → Bool} (g : S.get n = some (.lst (as.map fun a => .bl (f a)))) (q : Q (.bl (as.all f)) S) : wo (fAll [.loc n] S) Q := by
  have e : (as.map fun a => D.bl (f a)) = (as.map f).map .bl := by rw [List.map_map]; rfl
  rw [e] at g
  refine wo_of (d := .bl (as.all f)) ?_ q
  simp only [fAll, onLst, lstAt, g, blsOf_map, Option.map_some, List.all_map]
  rfl
theorem z_anyM {n : Nat} {as : List α} {f : α → Bool} (g : S.get n = some (.lst (as.map fun a => .bl (f a)))) (q : Q (.bl (as.any f)) S) : wo (fAny [.loc n] S) Q := by
  have e : (as.map fun a => D.bl (f a)) = (as.map f).map .bl := by rw [List.map_map]; rfl
  rw [e] at g
  refine wo_of (d := .bl (as.any f)) ?_ q
  simp only [fAny, onLst, lstAt, g, blsOf_map, Option.map_some, List.any_map]
  rfl
end
/-! ### loops over things that are told by a function -/
section
variable {α : Type} {S : Sto} {σ : Env} {R : Rs}
theorem for_F {t : Tg} {b : Sm} {as : List α} {e : α → D} (I : Nat → Env → Sto → Prop) (h0 : I 0 σ S)
    (hs : ∀ i a σ S, as[i]? = some a → I i σ S → wt (t (e a) σ) fun σ1 => ws b σ1 S (lp (I (i + 1)) R)) (he : ∀ σ S, I as.length σ S → R .nx σ S) :
    wm (forL (.fix (as.map e)) t b (cnt (.fix (as.map e)) S) 0 σ) S R := by
  refine for_fix I h0 (fun i x σ S hx h => ?_) (by rw [List.length_map]; exact he)
  obtain ⟨a, ha, _, rfl⟩ := mapE hx
  exact hs i a σ S ha h
theorem for_L {t : Tg} {b : Sm} {n : Nat} {as : List α} {e : α → D} (I : Nat → Env → Sto → Prop) (hl : ∀ i σ S, I i σ S → S.get n = some (.lst (as.map e))) (h0 : I 0 σ S)
    (hs : ∀ i a σ S, as[i]? = some a → I i σ S → wt (t (e a) σ) fun σ1 => ws b σ1 S (lp (I (i + 1)) R)) (he : ∀ σ S, I as.length σ S → R .nx σ S) :
    wm (forL (.lst n) t b (cnt (.lst n) S) 0 σ) S R := by
  refine for_lst (xs := as.map e) I (fun i σ S h => by unfold lstAt; rw [hl i σ S h]) h0 (fun i x σ S hx h => ?_) (by rw [List.length_map]; exact he)
  obtain ⟨a, ha, _, rfl⟩ := mapE hx
  exact hs i a σ S ha h
end
theorem enum_ty {α : Type} (as : List α) (e : α → D) (k : Int) : ((as.map e).zipIdx.map fun p => D.tup [.int (k + (p.2 : Nat)), p.1]) = as.zipIdx.map fun p => D.tup [.int (k + (p.2 : Nat)), e p.1] := by
  rw [List.zipIdx_map, List.map_map]
  rfl
/-! ### enumerated; handlers; a lambda handed over -/
section
variable {α : Type} {S : Sto} {σ : Env} {R : Rs} {Q : D → Sto → Prop} {E : Xc → Sto → Prop}
theorem for_E {t : Tg} {b : Sm} {as : List α} {e : α → D} {k : Int} (I : Nat → Env → Sto → Prop) (h0 : I 0 σ S)
    (hs : ∀ (i : Nat) a σ S, as[i]? = some a → I i σ S → wt (t (.tup [.int (k + i), e a]) σ) fun σ1 => ws b σ1 S (lp (I (i + 1)) R)) (he : ∀ σ S, I as.length σ S → R .nx σ S) :
    wm (forL (.fix ((as.map e).zipIdx.map fun p => D.tup [.int (k + (p.2 : Nat)), p.1])) t b (cnt (.fix ((as.map e).zipIdx.map fun p => D.tup [.int (k + (p.2 : Nat)), p.1])) S) 0 σ) S R := by
  refine for_fix I h0 (fun i x σ S hx h => ?_) (by rw [List.length_map, List.length_zipIdx, List.length_map]; exact he)
  rw [enumZ_get] at hx
  cases q : (as.map e)[i]? with
  | none => rw [q] at hx; cases hx
  | some y =>
    rw [q] at hx
    obtain ⟨a, ha, _, rfl⟩ := mapE q
    cases hx
    exact hs i a σ S ha h
theorem runH_f {sub : Str → Str → Option Bool} {x : Xc} {h : Hd} {r : List Hd} (e : sub x.cls h.c = some false) (w : wm (runH sub x r σ) S R) : wm (runH sub x (h :: r) σ) S R := by
  unfold wm at w ⊢
  simp only [runH, e]
  exact w
/-- a clause taken -/
def rh (i : Nat) (R : Rs) : Rs := fun fl σ S => match fl with
  | .nx => R .nx (σ.set i none) S
  | .bk => R .bk (σ.set i none) S
  | .ct => R .ct (σ.set i none) S
  | .rt d => R (.rt d) σ S
  | .xc _ => False
theorem rh_nx {i : Nat} (h : R .nx (σ.set i none) S) : rh i R .nx σ S := h
theorem rh_rt {i : Nat} {d : D} (h : R (.rt d) σ S) : rh i R (.rt d) σ S := h
theorem runH_t {sub : Str → Str → Option Bool} {x : Xc} {h : Hd} {r : List Hd} (e : sub x.cls h.c = some true) (w : ws h.g (σ.set h.i (some (.xc x.cls x.ns x.ds))) S (rh h.i R)) : wm (runH sub x (h :: r) σ) S R := by
  unfold ws at w
  unfold wm
  simp only [runH, e]
  cases z : h.g (σ.set h.i (some (.xc x.cls x.ns x.ds))) S with
  | ok p S1 =>
    obtain ⟨fl, σ1⟩ := p
    rw [z] at w
    cases fl <;> exact w
  | exc x S1 => rw [z] at w; exact w.elim
  | bad => rw [z] at w; exact w.elim
theorem runH_n {sub : Str → Str → Option Bool} {x : Xc} (w : R (.xc x) σ S) : wm (runH sub x [] σ) S R := w
theorem w_lam {len : Nat} {b : LBody} {f : Env → M D} (w : ws (b fun _ => f σ) (some .non :: List.replicate (len - 1) none) S (fz Q E)) : wp (eLam len b f σ) S Q E := by
  unfold ws at w
  unfold wp eLam runL
  cases z : b (fun _ => f σ) (some .non :: List.replicate (len - 1) none) S with
  | ok p S1 =>
    obtain ⟨fl, σ1⟩ := p
    rw [z] at w
    cases fl <;> exact w
  | exc x S1 => rw [z] at w; exact w.elim
  | bad => rw [z] at w; exact w.elim
end
/-! ### slices -/
theorem cut_from {α : Type} (xs : List α) (k : Nat) : cutD xs (some (k : Int)) none = xs.drop k := by
  unfold cutD
  rw [HT.sIx_nat, HT.sIx_none]
  by_cases h : k ≤ xs.length
  · rw [Nat.min_eq_left h, List.take_of_length_le (by simp)]
  · rw [Nat.min_eq_right (by omega), List.drop_eq_nil_of_le (Nat.le_refl _), List.drop_eq_nil_of_le (by omega), List.take_nil]
theorem cut_to {α : Type} (xs : List α) (k : Nat) : cutD xs none (some (k : Int)) = xs.take k := by
  unfold cutD
  rw [HT.sIx_nat, HT.sIx_none, List.drop_zero, Nat.sub_zero]
  by_cases h : k ≤ xs.length
  · rw [Nat.min_eq_left h]
  · rw [Nat.min_eq_right (by omega), List.take_of_length_le (Nat.le_refl _), List.take_of_length_le (by omega)]
theorem cut_one {α : Type} (xs : List α) : cutD xs (some 1) none = xs.tail := by
  rw [show (1 : Int) = ((1 : Nat) : Int) from rfl, cut_from]; cases xs <;> rfl
theorem atD_nat {α : Type} (xs : List α) (i : Nat) : atD xs (i : Int) = xs[i]? := by
  unfold atD ixN
  rw [if_pos (by omega)]
  by_cases h : i < xs.length
  · rw [if_pos (by omega)]; simp
  · rw [if_neg (by omega), List.getElem?_eq_none (by omega)]; rfl
theorem ixN_nat {n i : Nat} (h : i < n) : ixN n (i : Int) = some i := by
  unfold ixN
  rw [if_pos (by omega), if_pos (by omega)]; simp
theorem atD_int {α : Type} (xs : List α) {i : Int} (h : 0 ≤ i) : atD xs i = xs[i.toNat]? := by
  rw [← atD_nat, Int.toNat_of_nonneg h]
theorem ixN_last {n : Nat} (h : 0 < n) : ixN n (-1) = some (n - 1) := by
  unfold ixN
  rw [if_neg (by omega), if_pos (by omega)]
  congr 1
  omega
theorem atD_last {α : Type} {xs : List α} (h : xs ≠ []) : atD xs (-1) = xs.getLast? := by
  have hl : 0 < xs.length := List.length_pos_iff.mpr h
  unfold atD
  rw [ixN_last hl, Option.bind_some, List.getLast?_eq_getElem?]
theorem set_last {α : Type} {xs : List α} {v : α} (h : xs ≠ []) : xs.set (xs.length - 1) v = xs.dropLast ++ [v] := by
  obtain ⟨l, a, rfl⟩ : ∃ l a, xs = l ++ [a] := ⟨xs.dropLast, xs.getLast h, (List.dropLast_concat_getLast h).symm⟩
  simp
/-! ### dicts; items stored -/
section
variable {S : Sto} {σ : Env} {Q : D → Sto → Prop} {E : Xc → Sto → Prop}
theorem w_pnil {Q : List (Key × D) → Sto → Prop} (h : Q [] S) : wp (pM [] σ) S Q E := h
theorem w_pcons {fk fv : Env → M D} {r : Prs} {Q : List (Key × D) → Sto → Prop} (w : wp (fk σ) S (fun k S1 => wp (fv σ) S1 (fun v S2 => wp (pM r σ) S2 (fun ps S3 => wt (keyOf k) fun kk => Q ((kk, v) :: ps) S3) E) E) E) : wp (pM ((fk, fv) :: r) σ) S Q E := by
  unfold pM
  refine wp_bnd (w.imp (fun k S1 z => wp_bnd (z.imp (fun v S2 z => wp_bnd (z.imp (fun ps S3 z => ?_) fun _ _ z => z)) fun _ _ z => z)) fun _ _ z => z)
  obtain ⟨kk, e, z⟩ := z
  simp only [e]
  exact z
theorem w_dict {prs : Prs} (w : wp (pM prs σ) (S.push (.dK [])) (fun kvs S2 => S2.get S.n = some (.dK []) ∧ kvs.length ≤ 15 ∧ Q (.loc S.n) (S2.set S.n (.dK (mergeD [] kvs)))) E) : wp (eDict prs σ) S Q E := by
  unfold wp at w ⊢
  unfold eDict
  cases z : pM prs σ (S.push (.dK [])) with
  | ok kvs S2 =>
    rw [z] at w
    obtain ⟨h1, h2, h3⟩ := w
    simp only [h1, Nat.ble_eq_true_of_le h2]
    exact h3
  | exc x S2 => rw [z] at w; exact w
  | bad => rw [z] at w; exact w
theorem z_putL {n j : Nat} {xs : List D} {i : Int} {v : D} {P : Sto → Prop} (g : S.get n = some (.lst xs)) (h : ixN xs.length i = some j) (q : P (S.set n (.lst (xs.set j v)))) : wt (fPut (.loc n) (.int i) v S) P := by
  refine ⟨_, ?_, q⟩
  simp only [fPut, g, h]
theorem z_putK {n : Nat} {kvs : List (Key × D)} {z : Str} {v : D} {P : Sto → Prop} (g : S.get n = some (.dK kvs)) (h : kvs.length < sizeLine) (q : P (S.set n (.dK (putD kvs (Sum.inr z) v)))) : wt (fPut (.loc n) (.str z) v S) P := by
  refine ⟨_, ?_, q⟩
  simp only [fPut, g, keyOf, blt_t h]
theorem z_popAt {n : Nat} {y : D} {xs : List D} (g : S.get n = some (.lst (y :: xs))) (q : Q y (S.set n (.lst xs))) : wo (fPopAt (.loc n) [.int 0] S) Q := by
  refine wo_of ?_ q
  have e : ixN (y :: xs).length 0 = some 0 := ixN_nat (i := 0) (by simp)
  simp only [fPopAt, g, e]
  rfl
end
/-! ### lists walked -/
section
variable {S : Sto} {Q : D → Sto → Prop}
theorem z_itL {n : Nat} {xs : List D} {P : Itm → Prop} (g : S.get n = some (.lst xs)) (q : P (.lst n)) : wt (itOf (.loc n) S) P := by
  refine ⟨_, ?_, q⟩
  simp only [itOf, lstAt, g, Option.map_some]
theorem z_itE {n : Nat} {xs : List D} {P : Itm → Prop} (g : S.get n = some (.lst xs)) (q : P (.enm n)) : wt (itEnm [.loc n] S) P := by
  refine ⟨_, ?_, q⟩
  simp only [itEnm, lstAt, g, Option.map_some]
theorem z_itR {j : Int} {P : Itm → Prop} (h : -(2 ^ 62) ≤ j ∧ j < 2 ^ 62) (q : P (.rng 0 j.toNat)) : wt (itRng1 [.int j] S) P := by
  refine ⟨_, ?_, q⟩
  simp only [itRng1]
  rw [if_pos h]
theorem z_itR2 {i j : Int} {P : Itm → Prop} (h : -(2 ^ 62) ≤ i ∧ i < 2 ^ 62 ∧ -(2 ^ 62) ≤ j ∧ j < 2 ^ 62) (q : P (.rng i (j - i).toNat)) : wt (itRng2 [.int i, .int j] S) P := by
  refine ⟨_, ?_, q⟩
  simp only [itRng2]
  rw [if_pos h]
theorem z_listL {n : Nat} {xs : List D} (g : S.get n = some (.lst xs)) (q : Q (.loc S.n) (S.push (.lst xs))) : wo (fList [.loc n] S) Q := by
  refine wo_of ?_ q
  simp only [fList, lstAt, g]
end
/-! ### lists as data -/
theorem toPDs_map {α : Type} {f : D → Option PyData} {e : α → D} {g : α → PyData} (h : ∀ a, f (e a) = some (g a)) : ∀ as : List α, toPDs f (as.map e) = some (as.map g)
  | [] => rfl
  | a :: as => by simp only [List.map_cons, toPDs, h a, toPDs_map h as]
theorem pd_loc {S : Sto} {n k : Nat} {xs : List D} {ps : List PyData} (g : S.get n = some (.lst xs)) (h : toPDs (toPD k S) xs = some ps) : toPD (k + 1) S (.loc n) = some (.list ps) := by
  have e : lstAt S n = some xs := by unfold lstAt; rw [g]
  simp only [toPD, e, Option.bind_some, h, Option.map_some]
theorem pd_tup {S : Sto} {k : Nat} {xs : List D} {ps : List PyData} (h : toPDs (toPD k S) xs = some ps) : toPD (k + 1) S (.tup xs) = some (.tuple ps) := by
  simp only [toPD, h, Option.map_some]
theorem pd_int {S : Sto} {k : Nat} {i : Int} : toPD k S (.int i) = some (.int i) := by cases k <;> rfl
theorem pd_non {S : Sto} {k : Nat} : toPD k S .non = some .none := by cases k <;> rfl
/-! ### a join -/
def sj (J : Env → Sto → Prop) (R : Rs) : Rs := fun fl σ S => match fl with
  | .nx => J σ S
  | .bk => R .bk σ S
  | .ct => R .ct σ S
  | .rt d => R (.rt d) σ S
  | .xc x => R (.xc x) σ S
theorem ws_cut {a b : Sm} {σ : Env} {S : Sto} {R : Rs} (J : Env → Sto → Prop) (h : ws a σ S (sj J R)) (q : ∀ σ' S', J σ' S' → ws b σ' S' R) : ws (sSeq a b) σ S R := by
  refine ws_seq (h.imp fun fl σ' S' z => ?_)
  cases fl with
  | nx => exact q _ _ z
  | _ => exact z
section
variable {J : Env → Sto → Prop} {R : Rs} {σ : Env} {S : Sto} {d : D} {x : Xc}
theorem sj_nx (h : J σ S) : sj J R .nx σ S := h
theorem sj_rt (h : R (.rt d) σ S) : sj J R (.rt d) σ S := h
theorem sj_xc (h : R (.xc x) σ S) : sj J R (.xc x) σ S := h
theorem sj_bk (h : R .bk σ S) : sj J R .bk σ S := h
theorem sj_ct (h : R .ct σ S) : sj J R .ct σ S := h
end
/-! ### sorted, max -/
def leP (p q : IP) : Bool := !lexP q p
theorem kyD_IP (p : IP) : kyD (dIP p) = [(0, [p.1]), (0, [p.2])] := rfl
theorem leD_IP (p q : IP) : leD (dIP p) (dIP q) = leP p q := by
  unfold leD leP
  rw [kyD_IP, kyD_IP]
  congr 1
  unfold ltK lexP
  simp only [lexG, ltA, if_true, HT.lexLt_cons, Prod.mk.injEq, true_and, List.cons.injEq, and_true]
  by_cases h : q.1 = p.1
  · rw [if_pos h, if_pos h]
    by_cases h2 : q.2 = p.2
    · rw [if_pos h2]; simp [h2]
    · rw [if_neg h2, if_neg h2]
  · rw [if_neg h, if_neg h, if_neg h]
theorem srt_IP (ps : List IP) : srt (ps.map dIP) = some ((ps.mergeSort leP).map dIP) := by
  cases ps with
  | nil => simp [srt, intsOf]
  | cons p ps =>
    have e1 : intsOf ((p :: ps).map dIP) = none := rfl
    have e2 : cmpAll ((p :: ps).map dIP) = true := by
      unfold cmpAll
      rw [List.all_eq_true]
      intro x hx
      obtain ⟨a, _, rfl⟩ := List.mem_map.mp hx
      rw [Bool.and_eq_true]
      refine ⟨rfl, ?_⟩
      rw [List.all_eq_true]
      intro y hy
      obtain ⟨b, _, rfl⟩ := List.mem_map.mp hy
      rfl
    unfold srt
    rw [e1, e2]
    simp only
    rw [List.map_mergeSort (r := leP) (s := leD) (f := dIP) fun a _ b _ => (leD_IP a b).symm]
theorem srt_I (is : List Int) : srt (is.map .int) = some ((is.mergeSort fun a b => decide (a ≤ b)).map .int) := by
  unfold srt
  rw [intsOf_map]
section
variable {S : Sto} {Q : D → Sto → Prop}
theorem z_sorted0 {d : D} {xs ys : List D} (g : seqOf d S = some xs) (h : srt xs = some ys) (q : Q (.loc S.n) (S.push (.lst ys))) : wo (fSorted [d] S) Q := by
  refine wo_of ?_ q
  simp only [fSorted, g, h, Option.bind_some, Option.map_some]
theorem z_sorted {d : D} {xs ys : List D} (g : seqOf d S = some xs) (h : srt xs = some ys) (q : Q (.loc S.n) (S.push (.lst ys))) : wo (fSortD [d] S) Q := by
  have e : fSortD [d] S = fSorted [d] S := by
    unfold fSortD
    split
    · rename_i n hd
      cases hd
      split
      · rename_i kvs eg
        simp only [seqOf, lstAt, eg] at g
        cases g
      · rfl
    · rfl
  rw [e]
  exact z_sorted0 g h q
theorem seq_lst {n : Nat} {xs : List D} (g : S.get n = some (.lst xs)) : seqOf (.loc n) S = some xs := by
  unfold seqOf lstAt
  simp only [g]
theorem z_maxP {n : Nat} {p : IP} {ps : List IP} (g : S.get n = some (.lst ((p :: ps).map dIP))) (q : Q (dIP (ps.foldl (fun a b => if lexP a b = true then b else a) p)) S) : wo (fMaxG [.loc n] S) Q := by
  refine wo_of ?_ q
  have e0 : lstAt S n = some ((p :: ps).map dIP) := by unfold lstAt; rw [g]
  have e1 : intsOf ((p :: ps).map dIP) = none := rfl
  have e2 : fMax1 [.loc n] S = none := by simp only [fMax1, onLst, e0, e1, Option.bind_none, Option.map_none]
  unfold fMaxG
  rw [e2]
  simp only [fMaxP, onLst, e0, ipsOf_map, Option.bind_some, maxP, Option.map_some]
theorem z_maxI {n : Nat} {i : Int} {is : List Int} (g : S.get n = some (.lst ((i :: is).map .int))) (q : Q (.int (is.foldl (fun a b => if a < b then b else a) i)) S) : wo (fMaxG [.loc n] S) Q := by
  refine wo_of ?_ q
  have e0 : lstAt S n = some ((i :: is).map .int) := by unfold lstAt; rw [g]
  have e2 : fMax1 [.loc n] S = some (.int (is.foldl (fun a b => if a < b then b else a) i), S) := by simp only [fMax1, onLst, e0, intsOf_map, Option.bind_some, maxI, Option.map_some]
  unfold fMaxG
  rw [e2]
end
/-! ### two fors -/
def wl2 (it : Itm) (t : Tg) (tt : Env → M Bool) (src1 : Env → M Itm) (vs1 : List Nat) (t1 : Tg) (tt1 : Env → M Bool) (f : Env → M D) (σ : Env) (S : Sto) (Q : D → Sto → Prop) : Prop := match lc2L it t tt src1 vs1 t1 tt1 f S.n σ (cnt it S) 0 (S.push (.lst [])) with
  | .ok _ S' => Q (.loc S.n) S'
  | _ => False
section
variable {S : Sto} {σ : Env} {Q : D → Sto → Prop} {E : Xc → Sto → Prop}
theorem w_lc2 {vs : List Nat} {src : Env → M Itm} {t : Tg} {tt : Env → M Bool} {src1 : Env → M Itm} {vs1 : List Nat} {t1 : Tg} {tt1 : Env → M Bool} {f : Env → M D} (w : wp (src σ) S (fun it S1 => wl2 it t tt src1 vs1 t1 tt1 f (wipeE σ vs) S1 Q) E) : wp (eLc2 vs src t tt src1 vs1 t1 tt1 f σ) S Q E := by
  refine wp_bnd (w.imp (fun it S1 z => ?_) fun _ _ z => z)
  unfold wl2 at z
  unfold wp
  dsimp only
  cases q : lc2L it t tt src1 vs1 t1 tt1 f S1.n (wipeE σ vs) (cnt it S1) 0 (S1.push (.lst [])) with
  | ok u S2 => rw [q] at z; exact z
  | exc x S2 => rw [q] at z; exact z.elim
  | bad => rw [q] at z; exact z.elim
/-- of values alone, no tests: the inner items are those of a list or tuple told by the outer one -/
theorem lc2_pure {α β : Type} {it : Itm} {t : Tg} {src1 : Env → M Itm} {vs1 : List Nat} {t1 : Tg} {f : Env → M D} (as : List α) (e : α → D) (bs : α → List β) (e1 : β → D) (g : α → β → D) (hy : ∀ i S1, Gr S S1 → nxt it i S1 = some (as.map e)[i]?) (hc : cnt it S = as.length + 1) (hz : (as.flatMap bs).length ≤ sizeLine)
    (hs : ∀ a ∈ as, ∀ S1, Gr S S1 → S.n < S1.n → wt (t (e a) σ) fun σ1 => wp (src1 σ1) S1 (fun it1 S2 => Gr S1 S2 ∧ (∀ i S3, Gx [S.n] S2 S3 → nxt it1 i S3 = some ((bs a).map e1)[i]?) ∧ cnt it1 S2 = (bs a).length + 1 ∧
      ∀ b ∈ bs a, ∀ S3, Gx [S.n] S2 S3 → wt (t1 (e1 b) (wipeE σ1 vs1)) fun σ2 => wp (f σ2) S3 (fun y S4 => y = g a b ∧ Gr S3 S4) noX) noX)
    (he : ∀ S1, Gr S S1 → S.n < S1.n → S1.get S.n = some (.lst (as.flatMap fun a => (bs a).map (g a))) → Q (.loc S.n) S1) : wl2 it t tYesM src1 vs1 t1 tYesM f σ S Q := by
  have main : ∀ k i S1, i ≤ as.length → as.length < i + k → Gr S S1 → S.n < S1.n → S1.get S.n = some (.lst ((as.take i).flatMap fun a => (bs a).map (g a))) → ∃ u S', lc2L it t tYesM src1 vs1 t1 tYesM f S.n σ k i S1 = .ok u S' ∧ Q (.loc S.n) S' := by
    intro k
    induction k with
    | zero => intro i S1 h1 h2; omega
    | succ k ih =>
      intro i S1 hi hk gr hn gg
      unfold lc2L
      rw [hy i S1 gr]
      cases hx : (as.map e)[i]? with
      | none =>
        have hl : as.length ≤ i := by simpa using List.getElem?_eq_none_iff.mp hx
        have ei : i = as.length := by omega
        subst ei
        rw [List.take_length] at gg
        exact ⟨(), S1, rfl, he S1 gr hn gg⟩
      | some x =>
        obtain ⟨a, ha, hm, rfl⟩ := mapE hx
        have hl : i < as.length := (List.getElem?_eq_some_iff.mp ha).1
        obtain ⟨σ1, et, w1⟩ := hs a hm S1 gr hn
        obtain ⟨it1, S2, es, gr2, hy1, hc1, hin⟩ := w1.ok
        have g2 := gr2.get gg
        have hn2 : S.n < S2.n := Sto.lt_of g2
        have htk : as.take (i + 1) = as.take i ++ [a] := by rw [List.take_succ, ha]; rfl
        have hlen : ((as.take i).flatMap fun a => (bs a).map (g a)).length + (bs a).length ≤ sizeLine := by
          have e1 : ((as.take i).flatMap fun a => (bs a).map (g a)).length = ((as.take i).flatMap bs).length := by
            generalize as.take i = l
            induction l with
            | nil => rfl
            | cons x l ih2 => simp only [List.flatMap_cons, List.length_append, List.length_map, ih2]
          have e2 : as = as.take i ++ a :: as.drop (i + 1) := by
            have := List.take_append_drop (i + 1) as
            rw [htk] at this
            simpa using this.symm
          have e3 : (as.flatMap bs).length = ((as.take i).flatMap bs).length + ((bs a).length + ((as.drop (i + 1)).flatMap bs).length) := by
            conv => lhs; rw [e2]
            simp only [List.flatMap_append, List.flatMap_cons, List.length_append]
          omega
        generalize hacc : (as.take i).flatMap (fun a => (bs a).map (g a)) = acc0 at gg g2 hlen
        -- the inner for
        have inner : ∃ u S3, lcL it1 t1 tYesM f S.n (wipeE σ1 vs1) (cnt it1 S2) 0 S2 = .ok u S3 ∧ (Gx [S.n] S2 S3 ∧ S3.get S.n = some (.lst (acc0 ++ (bs a).map (g a)))) := by
          have go : ∀ kk j S3, j ≤ (bs a).length → (bs a).length < j + kk → Gx [S.n] S2 S3 → S3.get S.n = some (.lst (acc0 ++ ((bs a).take j).map (g a))) → ∃ u S4, lcL it1 t1 tYesM f S.n (wipeE σ1 vs1) kk j S3 = .ok u S4 ∧ (Gx [S.n] S2 S4 ∧ S4.get S.n = some (.lst (acc0 ++ (bs a).map (g a)))) := by
            intro kk
            induction kk with
            | zero => intro j S3 h1 h2; omega
            | succ kk ih2 =>
              intro j S3 hj hkk gx g3
              unfold lcL
              rw [hy1 j S3 gx]
              cases hx1 : ((bs a).map e1)[j]? with
              | none =>
                have hl1 : (bs a).length ≤ j := by simpa using List.getElem?_eq_none_iff.mp hx1
                have ej : j = (bs a).length := by omega
                subst ej
                rw [List.take_length] at g3
                exact ⟨(), S3, rfl, gx, g3⟩
              | some x1 =>
                obtain ⟨b, hb, hbm, rfl⟩ := mapE hx1
                have hl1 : j < (bs a).length := (List.getElem?_eq_some_iff.mp hb).1
                obtain ⟨σ2, et1, w2⟩ := hin b hbm S3 gx
                obtain ⟨y, S4, ef, rfl, gr4⟩ := w2.ok
                have g4 := gr4.get g3
                have et1' : t1 (e1 b) (wipeE σ1 vs1) = some σ2 := et1
                have eb : Nat.blt (acc0 ++ ((bs a).take j).map (g a)).length sizeLine = true := blt_t (by simp only [List.length_append, List.length_map, List.length_take]; omega)
                simp only [et1', tYesM, ret, ef, g4, eb]
                have htk1 : (bs a).take (j + 1) = (bs a).take j ++ [b] := by rw [List.take_succ, hb]; rfl
                refine ih2 (j + 1) _ hl1 (by omega) ((gx.trans (gr4.any _)).set (.inl (by simp)) (Sto.lt_of g4) _) ?_
                rw [Sto.get_set g4, htk1]; simp
          exact go (cnt it1 S2) 0 S2 (Nat.zero_le _) (by omega) (Gx.refl _ _) (by simpa using g2)
        obtain ⟨u, S3, el, gx3, g3⟩ := inner
        have et' : t (e a) σ = some σ1 := et
        simp only [et', tYesM, ret, es]
        simp only [el]
        have gr3 : Gr S S3 := ⟨Nat.le_trans (gr.trans gr2).le gx3.le, fun j hj _ => (gx3.at_ j (Nat.lt_of_lt_of_le hj (gr.trans gr2).le) (by simp; omega)).trans ((gr.trans gr2).at_ j hj (by simp))⟩
        refine ih (i + 1) S3 hl (by omega) gr3 (Sto.lt_of g3) ?_
        rw [g3, htk, List.flatMap_append, hacc]; simp
  obtain ⟨u, S', el, q⟩ := main (cnt it S) 0 (S.push (.lst [])) (Nat.zero_le _) (by omega) ((Gx.refl _ _).push _) (by simp) (Sto.get_push _ _)
  unfold wl2
  rw [el]
  exact q
end
/-! ### words for the steps -/
section
variable {α β : Type} {S S' : Sto} {σ : Env} {Q : D → Sto → Prop} {E : Xc → Sto → Prop} {R : Rs} {A B : Prop} {g : Sm} {I : Env → Sto → Prop} {d : D} {x : Xc}
theorem z_var {i : Nat} (h : ∃ d, σ[i]? = some (some d) ∧ Q d S) : wp (eVar i σ) S Q E := by
  obtain ⟨d, e, h⟩ := h
  exact w_var e h
theorem z_wt {o : Option α} {P : α → Prop} (h : ∃ a, o = some a ∧ P a) : wt o P := h
theorem z_wz {n : Nat} (h : Nat.ble n sizeLine = true) (a : A) : wz n A := ⟨Nat.le_of_ble_eq_true h, a⟩
theorem z_wo {o : Option (D × Sto)} (h : ∃ d S', o = some (d, S') ∧ Q d S') : wo o Q := by
  obtain ⟨d, S', e, h⟩ := h
  exact wo_of e h
theorem sq_nx (h : ws g σ S R) : sq g R .nx σ S := h
theorem sq_rt (h : R (.rt d) σ S) : sq g R (.rt d) σ S := h
theorem sq_xc (h : R (.xc x) σ S) : sq g R (.xc x) σ S := h
theorem sq_bk (h : R .bk σ S) : sq g R .bk σ S := h
theorem sq_ct (h : R .ct σ S) : sq g R .ct σ S := h
theorem fz_nx (h : Q .non S) : fz Q E .nx σ S := h
theorem fz_rt (h : Q d S) : fz Q E (.rt d) σ S := h
theorem fz_xc (h : E x S) : fz Q E (.xc x) σ S := h
theorem lp_nx (h : I σ S) : lp I R .nx σ S := h
theorem lp_ct (h : I σ S) : lp I R .ct σ S := h
theorem lp_bk (h : R .nx σ S) : lp I R .bk σ S := h
theorem lp_rt (h : R (.rt d) σ S) : lp I R (.rt d) σ S := h
theorem lp_xc (h : R (.xc x) σ S) : lp I R (.xc x) σ S := h
end
/-! ### operations whose sides are not written out -/
section
variable {S : Sto} {Q : D → Sto → Prop}
theorem z_mod {i j : Int} (h : 0 < j) (q : Q (.int (i % j)) S) : wo (fMod (.int i) (.int j) S) Q := by
  refine wo_of ?_ q
  simp only [fMod, fMod0, iF, decide_eq_true h, Option.map_some]
theorem z_div {i j : Int} (h : 0 < j) (h2 : j < 1073741824) (q : Q (.int (i / j)) S) : wo (fDiv (.int i) (.int j) S) Q := by
  refine wo_of ?_ q
  simp only [fDiv, fDiv0, iF, decide_eq_true h, decide_eq_true h2, Option.map_some, Bool.and_self]
theorem z_mul {i j : Int} (h : (-(2 ^ 64) < i ∧ i < 2 ^ 64) ∨ (-(2 ^ 64) < j ∧ j < 2 ^ 64)) (q : Q (.int (i * j)) S) : wo (fMul (.int i) (.int j) S) Q := by
  refine wo_of ?_ q
  have e : (small64 i || small64 j) = true := by
    unfold small64
    rcases h with h | h
    · rw [decide_eq_true h.1, decide_eq_true h.2]; rfl
    · rw [decide_eq_true h.1, decide_eq_true h.2]; simp
  simp only [fMul, e]
theorem z_pow {i j : Int} (h : 0 ≤ j ∧ j ≤ 1000000 ∧ i.natAbs < 2 ^ 64) (q : Q (.int (i ^ j.toNat)) S) : wo (fPow (.int i) (.int j) S) Q := by
  refine wo_of ?_ q
  simp only [fPow, fPow0, iF, decide_eq_true h.1, decide_eq_true h.2.1, decide_eq_true h.2.2, Option.map_some, Bool.and_self]
theorem z_fld {cs : List Str} {n c : Str} {ns : List Str} {ds : List D} {d : D} (h1 : cs.contains c = true) (h2 : (ns.zip ds).lookup n = some d) (q : Q d S) : wo (fFld cs n (.xc c ns ds) S) Q := by
  refine wo_of ?_ q
  simp only [fFld, h1, h2]
theorem z_mulL {a : Nat} {xs : List D} {k : Int} (g : S.get a = some (.lst xs)) (h : -(2 ^ 63) ≤ k ∧ k < 2 ^ 63) (h2 : xs.length * k.toNat ≤ sizeLine) (q : Q (.loc S.n) (S.push (.lst (List.replicate k.toNat xs).flatten))) : wo (fMul (.loc a) (.int k) S) Q := by
  refine wo_of ?_ q
  simp only [fMul, g, decide_eq_true h.1, decide_eq_true h.2, Nat.ble_eq_true_of_le h2, Bool.and_self]
theorem z_ixT {xs : List D} {i : Int} {d : D} (h : atD xs i = some d) (q : Q d S) : wo (fIx (.tup xs) (.int i) S) Q := by
  refine wo_of ?_ q
  simp only [fIx, h, Option.map_some]
theorem z_ixL {n : Nat} {xs : List D} {i : Int} {d : D} (g : S.get n = some (.lst xs)) (h : atD xs i = some d) (q : Q d S) : wo (fIx (.loc n) (.int i) S) Q := by
  refine wo_of ?_ q
  simp only [fIx, g, h, Option.map_some]
theorem z_ixK {n : Nat} {kvs : List (Key × D)} {z : Str} {d : D} (g : S.get n = some (.dK kvs)) (h : dGet kvs (Sum.inr z) = some d) (q : Q d S) : wo (fIx (.loc n) (.str z) S) Q := by
  refine wo_of ?_ q
  simp only [fIx, g, h, Option.map_some]
theorem z_lenL {n : Nat} {xs : List D} (g : S.get n = some (.lst xs)) (q : Q (.int (xs.length : Nat)) S) : wo (fLen [.loc n] S) Q := by
  refine wo_of ?_ q
  simp only [fLen, lenD, g, Option.map_some]
theorem z_tupL {n : Nat} {xs : List D} (g : S.get n = some (.lst xs)) (q : Q (.tup xs) S) : wo (fTuple [.loc n] S) Q := by
  refine wo_of ?_ q
  simp only [fTuple, lstAt, g]
theorem z_all {n : Nat} {bs : List Bool} (g : S.get n = some (.lst (bs.map .bl))) (q : Q (.bl (bs.all id)) S) : wo (fAll [.loc n] S) Q := by
  refine wo_of ?_ q
  simp only [fAll, onLst, lstAt, g, blsOf_map, Option.map_some]
theorem z_any {n : Nat} {bs : List Bool} (g : S.get n = some (.lst (bs.map .bl))) (q : Q (.bl (bs.any id)) S) : wo (fAny [.loc n] S) Q := by
  refine wo_of ?_ q
  simp only [fAny, onLst, lstAt, g, blsOf_map, Option.map_some]
theorem z_addT {xs ys : List D} (h : xs.length + ys.length ≤ sizeLine) (q : Q (.tup (xs ++ ys)) S) : wo (fAdd (.tup xs) (.tup ys) S) Q := by
  refine wo_of ?_ q
  simp only [fAdd, Nat.ble_eq_true_of_le h]
theorem z_addL {a b : Nat} {xs ys : List D} (g1 : S.get a = some (.lst xs)) (g2 : S.get b = some (.lst ys)) (h : xs.length + ys.length ≤ sizeLine) (q : Q (.loc S.n) (S.push (.lst (xs ++ ys)))) : wo (fAdd (.loc a) (.loc b) S) Q := by
  refine wo_of ?_ q
  simp only [fAdd, g1, g2, Nat.ble_eq_true_of_le h]
theorem z_app {n : Nat} {xs : List D} {y : D} (g : S.get n = some (.lst xs)) (h : xs.length < sizeLine) (q : Q .non (S.set n (.lst (xs ++ [y])))) : wo (fApp (.loc n) [y] S) Q := by
  refine wo_of ?_ q
  simp only [fApp, g, blt_t h]
theorem z_eq {x y : D} {p r : PyData} (h1 : toPD 40 S x = some p) (h2 : toPD 40 S y = some r) (q : Q (.bl (PyData.eqv p r)) S) : wo (fEq x y S) Q := by
  refine wo_of ?_ q
  simp only [fEq, fPD, h1, h2]
theorem z_ne {x y : D} {p r : PyData} (h1 : toPD 40 S x = some p) (h2 : toPD 40 S y = some r) (q : Q (.bl (!PyData.eqv p r)) S) : wo (fNe x y S) Q := by
  refine wo_of ?_ q
  simp only [fNe, fPD, h1, h2]
theorem z_ext {n b : Nat} {xs zs : List D} (g1 : S.get n = some (.lst xs)) (g2 : S.get b = some (.lst zs)) (h : xs.length + zs.length ≤ sizeLine) (q : Q .non (S.set n (.lst (xs ++ zs)))) : wo (fExt (.loc n) [.loc b] S) Q := by
  refine wo_of ?_ q
  simp only [fExt, g1, g2, Nat.ble_eq_true_of_le h]
theorem z_notIn {x y : D} {p r : PyData} {ps : List PyData} (h1 : toPD 40 S x = some p) (h2 : toPD 40 S y = some r) (h3 : seqPD r = some ps) (q : Q (.bl (!ps.any fun z => PyData.eqv z p)) S) : wo (fNotIn x y S) Q := by
  refine wo_of ?_ q
  simp only [fNotIn, fPD, h1, h2, h3, Option.map_some]
theorem z_in {x y : D} {p r : PyData} {ps : List PyData} (h1 : toPD 40 S x = some p) (h2 : toPD 40 S y = some r) (h3 : seqPD r = some ps) (q : Q (.bl (ps.any fun z => PyData.eqv z p)) S) : wo (fIn x y S) Q := by
  refine wo_of ?_ q
  simp only [fIn, fPD, h1, h2, h3, Option.map_some]
theorem z_dictP {n : Nat} {xs : List D} {kvs : List (List Key × D)} (g : S.get n = some (.lst xs)) (h : pairsD xs = some kvs) (hl : xs.length ≤ 100000) (q : Q (.loc S.n) (S.push (.dT (kvs.foldl putT [])))) : wo (fDictP [.loc n] S) Q := by
  refine wo_of ?_ q
  simp only [fDictP, lstAt, g, h, if_pos hl]
theorem z_sortT {n : Nat} {kvs : List (List Key × D)} {ys : List D} (g : S.get n = some (.dT kvs)) (hl : kvs.length ≤ 100000) (h : srt (keysT kvs) = some ys) (q : Q (.loc S.n) (S.push (.lst ys))) : wo (fSortD [.loc n] S) Q := by
  refine wo_of ?_ q
  simp only [fSortD, g, h, if_pos hl, Option.map_some]
theorem z_tupR2 {i j : Int} (h : -100000 ≤ i ∧ i ≤ 100000 ∧ -100000 ≤ j ∧ j ≤ 100000) (q : Q (.tup (rgD i j)) S) : wo (fTupR2 (.int i) (.int j) S) Q := by
  refine wo_of ?_ q
  simp only [fTupR2, fRgT, if_pos h]
theorem z_tupR1 {j : Int} (h : -100000 ≤ j ∧ j ≤ 100000) (q : Q (.tup (rgD 0 j)) S) : wo (fTupR1 (.int j) S) Q := by
  refine wo_of ?_ q
  simp only [fTupR1, fRgT, if_pos (show (-100000 : Int) ≤ 0 ∧ (0 : Int) ≤ 100000 ∧ -100000 ≤ j ∧ j ≤ 100000 from ⟨by omega, by omega, h.1, h.2⟩)]
theorem z_lstR1 {j : Int} (h : -100000 ≤ j ∧ j ≤ 100000) (q : Q (.loc S.n) (S.push (.lst (rgD 0 j)))) : wo (fLstR1 (.int j) S) Q := by
  refine wo_of ?_ q
  simp only [fLstR1, fRgL, if_pos (show (-100000 : Int) ≤ 0 ∧ (0 : Int) ≤ 100000 ∧ -100000 ≤ j ∧ j ≤ 100000 from ⟨by omega, by omega, h.1, h.2⟩)]
theorem z_lstR2 {i j : Int} (h : -100000 ≤ i ∧ i ≤ 100000 ∧ -100000 ≤ j ∧ j ≤ 100000) (q : Q (.loc S.n) (S.push (.lst (rgD i j)))) : wo (fLstR2 (.int i) (.int j) S) Q := by
  refine wo_of ?_ q
  simp only [fLstR2, fRgL, if_pos h]
end
end L2.Z

set_option Elab.async false
set_option linter.all false
set_option maxRecDepth 100000
set_option maxHeartbeats 4000000
/-! the denotations of the law's text -/
namespace L2.Z.Lw
open PySem PySem.Spec PyProof.Rows
def xcs : List Str := ["BadHistory", "BadNumber"]
def subL : List ((Str × Str) × Bool) := []
def subT (x y : Str) : Option Bool := subL.lookup (x, y)
abbrev i_is_integer : Nat := 0
abbrev i_is_between : Nat := 1
abbrev i_is_call : Nat := 2
abbrev i_is_thing : Nat := 3
abbrev i_need_history : Nat := 4
abbrev i_need_number_of : Nat := 5
abbrev i_is_in_ahead : Nat := 6
abbrev i_is_out_ahead : Nat := 7
abbrev i_is_turned_with : Nat := 8
abbrev i_is_early : Nat := 9
abbrev i_need_two : Nat := 10
abbrev i_is_in : Nat := 11
abbrev i_is_out : Nat := 12
abbrev i_is_turned : Nat := 13
abbrev i_pairs_in : Nat := 14
abbrev i_turned_pairs : Nat := 15
abbrev i_early_in : Nat := 16
abbrev i_early : Nat := 17
abbrev i_levels_in : Nat := 18
abbrev i_longest_to : Nat := 19
abbrev i__law_mixed : Nat := 20
abbrev i__law_begin : Nat := 21
abbrev i__law_draw : Nat := 22
abbrev i__law_of : Nat := 23
abbrev i__law_in : Nat := 24
abbrev i__law_out : Nat := 25
abbrev i__law_turned : Nat := 26
abbrev i__law_early : Nat := 27
abbrev i__law_lot_right : Nat := 28
abbrev i__law_call : Nat := 29
abbrev i__law_queued : Nat := 30
abbrev i__law_things : Nat := 31
abbrev i__law_history : Nat := 32
abbrev i__law_levels : Nat := 33
abbrev i__law_history_right : Nat := 34
abbrev i_law : Nat := 35
def b_is_integer (c : Orc) : Sm := sRet (eAnd (e1 (fIsi .int) (eVar 0)) (eNot (e1 (fIsi .bool) (eVar 0))))
def b_is_between (c : Orc) : Sm := sRet (eAnd (eCall c i_is_integer (aCons (eVar 0) (aNil))) (eChain fLe fLe (eVar 1) (eVar 0) (eVar 2)))
def b_is_call (c : Orc) : Sm := sSeq (sIf (tOrM (tNotM (tV (e1 (fIsi .tuple) (eVar 0)))) (tV (e2 fNe (eCB fLen (aCons (eVar 0) (aNil))) (eC (.int 2))))) (sRet (eC (.bl false))) (sNil)) (sRet (eAnd (eCB fAll (aCons (eLc [1] (iSeq (eVar 0)) (gN 1) (tYesM) (eCall c i_is_between (aCons (eVar 1) (aCons (e2 fSub (eC (.int 0)) (eC (.int 1000000000))) (aCons (eC (.int 1000000000)) (aNil)))))) (aNil))) (e2 fLe (e2 fIx (eVar 0) (eC (.int 0))) (e2 fIx (eVar 0) (eC (.int 1))))))
def b_is_thing (c : Orc) : Sm := sSeq (sIf (tOrM (tNotM (tV (e1 (fIsi .tuple) (eVar 0)))) (tOrM (tV (e2 fNe (eCB fLen (aCons (eVar 0) (aNil))) (eC (.int 2)))) (tNotM (tV (eCall c i_is_call (aCons (e2 fIx (eVar 0) (eC (.int 0))) (aNil))))))) (sRet (eC (.bl false))) (sNil)) (sRet (eOr (e2 fIs (e2 fIx (eVar 0) (eC (.int 1))) (eC .non)) (eCall c i_is_call (aCons (e2 fIx (eVar 0) (eC (.int 1))) (aNil)))))
def b_need_history (c : Orc) : Sm := sSeq (sIf (tOrM (tNotM (tV (e1 (fIsi .tuple) (eVar 0)))) (tV (e2 fNe (eCB fLen (aCons (eVar 0) (aNil))) (eC (.int 2))))) (sRaise "BadHistory" ["part"] (aCons (eC (.str "form")) (aNil))) (sNil)) (sSeq (sUn (gT (gCons' (gN 1) (gCons' (gN 2) (gNil')))) (eVar 0)) (sSeq (sIf (tOrM (tNotM (tV (e1 (fIsi .tuple) (eVar 1)))) (tV (e2 fGt (eCB fLen (aCons (eVar 1) (aNil))) (eC (.int 12))))) (sRaise "BadHistory" ["part"] (aCons (eC (.str "things")) (aNil))) (sNil)) (sSeq (sFor (iEnm (aCons (eVar 1) (aNil))) (gT (gCons' (gN 3) (gCons' (gN 4) (gNil')))) (sIf (tNotM (tV (eCall c i_is_thing (aCons (eVar 4) (aNil))))) (sRaise "BadHistory" ["part"] (aCons (eTup (aCons (eC (.str "thing")) (aCons (eVar 3) (aNil)))) (aNil))) (sNil))) (sSeq (sIf (tOrM (tNotM (tV (e1 (fIsi .tuple) (eVar 2)))) (tV (e2 fGt (eCB fLen (aCons (eVar 2) (aNil))) (eC (.int 8))))) (sRaise "BadHistory" ["part"] (aCons (eC (.str "empties")) (aNil))) (sNil)) (sSeq (sFor (iEnm (aCons (eVar 2) (aNil))) (gT (gCons' (gN 3) (gCons' (gN 4) (gNil')))) (sIf (tNotM (tV (eCall c i_is_call (aCons (eVar 4) (aNil))))) (sRaise "BadHistory" ["part"] (aCons (eTup (aCons (eC (.str "empty")) (aCons (eVar 3) (aNil)))) (aNil))) (sNil))) (sRet (eVar 0)))))))
def b_need_number_of (c : Orc) : Sm := sIf (tNotM (tV (eCall c i_is_between (aCons (eVar 1) (aCons (eC (.int 0)) (aCons (e2 fSub (eCB fLen (aCons (e2 fIx (eVar 0) (eC (.int 0))) (aNil))) (eC (.int 1))) (aNil))))))) (sRaise "BadNumber" ["given"] (aCons (eVar 1) (aNil))) (sNil)
def b_is_in_ahead (c : Orc) : Sm := sRet (e2 fLt (e2 fIx (e2 fIx (eVar 0) (eC (.int 0))) (eC (.int 1))) (e2 fIx (e2 fIx (eVar 1) (eC (.int 0))) (eC (.int 0))))
def b_is_out_ahead (c : Orc) : Sm := sSeq (sIf (tV (e2 fIs (e2 fIx (eVar 0) (eC (.int 1))) (eC .non))) (sRet (eC (.bl false))) (sNil)) (sRet (eOr (e2 fIs (e2 fIx (eVar 1) (eC (.int 1))) (eC .non)) (e2 fLt (e2 fIx (e2 fIx (eVar 0) (eC (.int 1))) (eC (.int 1))) (e2 fIx (e2 fIx (eVar 1) (eC (.int 1))) (eC (.int 0))))))
def b_is_turned_with (c : Orc) : Sm := sRet (eAnd (eCall c i_is_in_ahead (aCons (eVar 0) (aCons (eVar 1) (aNil)))) (eCall c i_is_out_ahead (aCons (eVar 1) (aCons (eVar 0) (aNil)))))
def b_is_early (c : Orc) : Sm := sRet (eAnd (e2 fIsNot (e2 fIx (eVar 0) (eC (.int 1))) (eC .non)) (e2 fLt (e2 fIx (e2 fIx (eVar 0) (eC (.int 1))) (eC (.int 1))) (e2 fIx (e2 fIx (eVar 0) (eC (.int 0))) (eC (.int 0)))))
def b_need_two (c : Orc) : Sm := sSeq (sDrop (eCall c i_need_number_of (aCons (eCall c i_need_history (aCons (eVar 0) (aNil))) (aCons (eVar 1) (aNil))))) (sSeq (sDrop (eCall c i_need_number_of (aCons (eVar 0) (aCons (eVar 2) (aNil))))) (sRet (eTup (aCons (e2 fIx (e2 fIx (eVar 0) (eC (.int 0))) (eVar 1)) (aCons (e2 fIx (e2 fIx (eVar 0) (eC (.int 0))) (eVar 2)) (aNil))))))
def b_is_in (c : Orc) : Sm := sSeq (sUn (gT (gCons' (gN 3) (gCons' (gN 4) (gNil')))) (eCall c i_need_two (aCons (eVar 0) (aCons (eVar 1) (aCons (eVar 2) (aNil)))))) (sRet (eCall c i_is_in_ahead (aCons (eVar 3) (aCons (eVar 4) (aNil)))))
def b_is_out (c : Orc) : Sm := sSeq (sUn (gT (gCons' (gN 3) (gCons' (gN 4) (gNil')))) (eCall c i_need_two (aCons (eVar 0) (aCons (eVar 1) (aCons (eVar 2) (aNil)))))) (sRet (eCall c i_is_out_ahead (aCons (eVar 3) (aCons (eVar 4) (aNil)))))
def b_is_turned (c : Orc) : Sm := sSeq (sUn (gT (gCons' (gN 3) (gCons' (gN 4) (gNil')))) (eCall c i_need_two (aCons (eVar 0) (aCons (eVar 1) (aCons (eVar 2) (aNil)))))) (sRet (eCall c i_is_turned_with (aCons (eVar 3) (aCons (eVar 4) (aNil)))))
def b_pairs_in (c : Orc) : Sm := sSeq (sSet 1 (eLst (aNil))) (sSeq (sFor (iEnm (aCons (eVar 0) (aNil))) (gT (gCons' (gN 2) (gCons' (gN 3) (gNil')))) (sDrop (eM fExt (eVar 1) (aCons (eLc [4, 5] (iEnm (aCons (eVar 0) (aNil))) (gT (gCons' (gN 4) (gCons' (gN 5) (gNil')))) (tV (eCall c i_is_turned_with (aCons (eVar 3) (aCons (eVar 5) (aNil))))) (eTup (aCons (eVar 2) (aCons (eVar 4) (aNil))))) (aNil))))) (sRet (eVar 1)))
def b_turned_pairs (c : Orc) : Sm := sRet (eCB fTuple (aCons (eCall c i_pairs_in (aCons (e2 fIx (eCall c i_need_history (aCons (eVar 0) (aNil))) (eC (.int 0))) (aNil))) (aNil)))
def b_early_in (c : Orc) : Sm := sRet (eLc [1, 2] (iEnm (aCons (eVar 0) (aNil))) (gT (gCons' (gN 1) (gCons' (gN 2) (gNil')))) (tV (eCall c i_is_early (aCons (eVar 2) (aNil)))) (eVar 1))
def b_early (c : Orc) : Sm := sRet (eCB fTuple (aCons (eCall c i_early_in (aCons (e2 fIx (eCall c i_need_history (aCons (eVar 0) (aNil))) (eC (.int 0))) (aNil))) (aNil)))
def b_levels_in (c : Orc) : Sm := sSeq (sUn (gT (gCons' (gN 2) (gCons' (gN 3) (gNil')))) (eTup (aCons (eLc [4] (iSeq (eVar 0)) (gN 4) (tYesM) (eC (.int 1))) (aCons (eCall c i_pairs_in (aCons (eVar 0) (aNil))) (aNil))))) (sSeq (sFor (iRng1' (aCons (eCB fLen (aCons (eVar 0) (aNil))) (aNil))) (gN 1) (sSet 2 (eLc [5] (iRng1' (aCons (eCB fLen (aCons (eVar 0) (aNil))) (aNil))) (gN 5) (tYesM) (e2 fAdd (eC (.int 1)) (eCB fMaxG (aCons (e2 fAdd (eLst (aCons (eC (.int 0)) (aNil))) (eLc [6, 7] (iSeq (eVar 3)) (gT (gCons' (gN 6) (gCons' (gN 7) (gNil')))) (tV (e2 fEq (eVar 7) (eVar 5))) (e2 fIx (eVar 2) (eVar 6)))) (aNil))))))) (sRet (eVar 2)))
def b_longest_to (c : Orc) : Sm := sRet (eCB fTuple (aCons (eCall c i_levels_in (aCons (e2 fIx (eCall c i_need_history (aCons (eVar 0) (aNil))) (eC (.int 0))) (aNil))) (aNil)))
def b__law_mixed (c : Orc) : Sm := sSeq (sSet 0 (e2 fMod (eCB fInt (aCons (eVar 0) (aNil))) (eC (.int 2147483647)))) (sRet (e2 fMod (e2 fMul (e2 fMod (e2 fAdd (e2 fAdd (e2 fMul (eVar 0) (e2 fAdd (eC (.int 48271)) (e2 fMul (e2 fMul (eC (.int 2)) (eVar 1)) (eVar 1)))) (e2 fMul (eC (.int 69621)) (eVar 1))) (eC (.int 11))) (eC (.int 2147483647))) (eC (.int 69621))) (eC (.int 2147483629))))
def b__law_begin (c : Orc) : Sm := sSeq (sSet 1 (eIf (tV (e2 fNe (eVar 0) (eLst (aNil)))) (eCB fList (aCons (eVar 0) (aNil))) (eLst (aCons (eC (.int 0)) (aNil))))) (sRet (eDict [(eC (.str "cells"), eVar 1), (eC (.str "lefts"), eLc [2] (iSeq (eVar 1)) (gN 2) (tYesM) (eIf (tV (e2 fGe (eVar 2) (e2 fPow (eC (.int 10)) (eC (.int 18))))) (eVar 2) (eC (.int 0)))), (eC (.str "at"), eC (.int 0)), (eC (.str "room"), eC (.int 0))]))
def b__law_draw (c : Orc) : Sm := sSeq (sSet 2 (e2 fIx (eVar 0) (eC (.str "at")))) (sSeq (sSub (eVar 0) (eC (.str "at")) (e2 fAdd (eVar 2) (eC (.int 1)))) (sSeq (sSet 3 (e2 fMod (eCB fInt (aCons (eVar 2) (aNil))) (eCB fLen (aCons (e2 fIx (eVar 0) (eC (.str "cells"))) (aNil))))) (sSeq (sSet 4 (e2 fIx (e2 fIx (eVar 0) (eC (.str "lefts"))) (eVar 3))) (sSeq (sIf (tV (e2 fGt (eVar 4) (eC (.int 0)))) (sSeq (sSub (e2 fIx (eVar 0) (eC (.str "lefts"))) (eVar 3) (e2 fDiv (eVar 4) (eVar 1))) (sRet (e2 fMod (eCB fInt (aCons (eVar 4) (aNil))) (eVar 1)))) (sNil)) (sSeq (sSet 5 (eCall c i__law_mixed (aCons (eCall c i__law_mixed (aCons (e2 fIx (e2 fIx (eVar 0) (eC (.str "cells"))) (eVar 3)) (aCons (eVar 2) (aNil)))) (aCons (e2 fAdd (eC (.int 40)) (eVar 2)) (aNil))))) (sRet (e2 fMod (e2 fDiv (eCB fInt (aCons (e2 fAdd (e2 fMul (eVar 5) (eC (.int 2147483647))) (eCall c i__law_mixed (aCons (eVar 5) (aCons (e2 fAdd (eC (.int 7)) (eVar 2)) (aNil))))) (aNil))) (eC (.int 64))) (eVar 1))))))))
def b__law_of (c : Orc) : Sm := sRet (e2 fIx (eVar 1) (eCall c i__law_draw (aCons (eVar 0) (aCons (eCB fLen (aCons (eVar 1) (aNil))) (aNil)))))
def b__law_in (c : Orc) : Sm := sRet (e2 fLt (e2 fIx (e2 fIx (eVar 0) (eC (.int 0))) (eC (.int 1))) (e2 fIx (e2 fIx (eVar 1) (eC (.int 0))) (eC (.int 0))))
def b__law_out (c : Orc) : Sm := sSeq (sIf (tV (e2 fIs (e2 fIx (eVar 0) (eC (.int 1))) (eC .non))) (sRet (eC (.bl false))) (sNil)) (sRet (eOr (e2 fIs (e2 fIx (eVar 1) (eC (.int 1))) (eC .non)) (e2 fLt (e2 fIx (e2 fIx (eVar 0) (eC (.int 1))) (eC (.int 1))) (e2 fIx (e2 fIx (eVar 1) (eC (.int 1))) (eC (.int 0))))))
def b__law_turned (c : Orc) : Sm := sRet (eAnd (eCall c i__law_in (aCons (eVar 0) (aCons (eVar 1) (aNil)))) (eCall c i__law_out (aCons (eVar 1) (aCons (eVar 0) (aNil)))))
def b__law_early (c : Orc) : Sm := sRet (eAnd (e2 fIsNot (e2 fIx (eVar 0) (eC (.int 1))) (eC .non)) (e2 fLt (e2 fIx (e2 fIx (eVar 0) (eC (.int 1))) (eC (.int 1))) (e2 fIx (e2 fIx (eVar 0) (eC (.int 0))) (eC (.int 0)))))
def b__law_lot_right (c : Orc) : Sm := sSeq (sFor (iEnm (aCons (eVar 0) (aNil))) (gT (gCons' (gN 1) (gCons' (gN 2) (gNil')))) (sSeq (sIf (tV (eCall c i__law_early (aCons (eVar 2) (aNil)))) (sRet (eC (.bl false))) (sNil)) (sIf (tV (e2 fNe (eLc [3] (iSeq (eSl (eVar 0) none (some (eVar 1)))) (gN 3) (tOrM (tV (eCall c i__law_turned (aCons (eVar 2) (aCons (eVar 3) (aNil))))) (tV (eCall c i__law_turned (aCons (eVar 3) (aCons (eVar 2) (aNil)))))) (eC (.int 1))) (eLst (aNil)))) (sRet (eC (.bl false))) (sNil)))) (sRet (eC (.bl true)))
def b__law_call (c : Orc) : Sm := sRet (eTup (aCons (e2 fSub (eVar 1) (eCall c i__law_draw (aCons (eVar 0) (aCons (e2 fAdd (eVar 2) (eC (.int 1))) (aNil))))) (aCons (e2 fAdd (eVar 1) (eCall c i__law_draw (aCons (eVar 0) (aCons (e2 fAdd (eVar 2) (eC (.int 1))) (aNil))))) (aNil))))
def b__law_queued (c : Orc) : Sm := sSeq (sPar3 5 6 7 (aCons (eLc [4] (iRng1' (aCons (eVar 2) (aNil))) (gN 4) (tYesM) (eLst (aNil))) (aCons (eLst (aNil)) (aCons (eC (.int 0)) (aNil))))) (sSeq (sFor (iRng1' (aCons (e2 fMul (eC (.int 2)) (eVar 1)) (aNil))) (gN 4) (sSeq (sSet 7 (e2 fAdd (eVar 7) (eCall c i__law_draw (aCons (eVar 0) (aCons (eC (.int 3)) (aNil)))))) (sSeq (sSet 8 (eCall c i__law_draw (aCons (eVar 0) (aCons (eVar 2) (aNil))))) (sIf (tAndM (tV (e2 fLt (eCB fLen (aCons (eVar 6) (aNil))) (eVar 1))) (tOrM (tV (e2 fEq (e2 fIx (eVar 5) (eVar 8)) (eLst (aNil)))) (tV (e2 fEq (eCall c i__law_draw (aCons (eVar 0) (aCons (eC (.int 2)) (aNil)))) (eC (.int 0)))))) (sSeq (sDrop (eM fApp (e2 fIx (eVar 5) (eVar 8)) (aCons (eCB fLen (aCons (eVar 6) (aNil))) (aNil)))) (sDrop (eM fApp (eVar 6) (aCons (eTup (aCons (eCall c i__law_call (aCons (eVar 0) (aCons (eVar 7) (aCons (eVar 3) (aNil))))) (aCons (eC .non) (aNil)))) (aNil))))) (sIf (tV (e2 fNe (e2 fIx (eVar 5) (eVar 8)) (eLst (aNil)))) (sSeq (sSet 9 (eM fPopAt (e2 fIx (eVar 5) (eVar 8)) (aCons (eC (.int 0)) (aNil)))) (sSub (eVar 6) (eVar 9) (eTup (aCons (e2 fIx (e2 fIx (eVar 6) (eVar 9)) (eC (.int 0))) (aCons (eCall c i__law_call (aCons (eVar 0) (aCons (eVar 7) (aCons (eVar 3) (aNil))))) (aNil)))))) (sNil)))))) (sRet (eCB fTuple (aCons (eVar 6) (aNil)))))
def b__law_things (c : Orc) : Sm := sSeq (sPar 4 5 (aCons (e2 fAdd (eC (.int 1)) (eCall c i__law_draw (aCons (eVar 0) (aCons (eVar 1) (aNil))))) (aCons (eCall c i__law_draw (aCons (eVar 0) (aCons (eC (.int 3)) (aNil)))) (aNil)))) (sSeq (sIf (tV (e2 fLt (eVar 5) (eC (.int 2)))) (sRet (eCall c i__law_queued (aCons (eVar 0) (aCons (eVar 4) (aCons (e2 fAdd (eC (.int 1)) (e2 fMul (eC (.int 2)) (eVar 5))) (aCons (eC (.int 3)) (aNil))))))) (sNil)) (sSeq (sSet 2 (eLst (aNil))) (sSeq (sFor (iRng1' (aCons (eVar 4) (aNil))) (gN 3) (sSeq (sPar 6 7 (aCons (eCall c i__law_call (aCons (eVar 0) (aCons (eCall c i__law_draw (aCons (eVar 0) (aCons (eC (.int 12)) (aNil)))) (aCons (eC (.int 3)) (aNil))))) (aCons (eCall c i__law_call (aCons (eVar 0) (aCons (e2 fAdd (eC (.int 2)) (eCall c i__law_draw (aCons (eVar 0) (aCons (eC (.int 14)) (aNil))))) (aCons (eC (.int 3)) (aNil))))) (aNil)))) (sDrop (eM fApp (eVar 2) (aCons (eTup (aCons (eVar 6) (aCons (eIf (tV (e2 fGt (eCall c i__law_draw (aCons (eVar 0) (aCons (eC (.int 5)) (aNil)))) (eC (.int 0)))) (eVar 7) (eC .non)) (aNil)))) (aNil)))))) (sRet (eCB fTuple (aCons (eVar 2) (aNil)))))))
def b__law_history (c : Orc) : Sm := sSeq (sSet 3 (eCall c i__law_things (aCons (eVar 0) (aCons (eVar 1) (aNil))))) (sSeq (sSet 4 (eLc [5] (iRng1' (aCons (eCall c i__law_draw (aCons (eVar 0) (aCons (e2 fAdd (eVar 2) (eC (.int 1))) (aNil)))) (aNil))) (gN 5) (tYesM) (eCall c i__law_call (aCons (eVar 0) (aCons (eCall c i__law_draw (aCons (eVar 0) (aCons (eC (.int 16)) (aNil)))) (aCons (eC (.int 2)) (aNil))))))) (sRet (eTup (aCons (eVar 3) (aCons (eCB fTuple (aCons (eVar 4) (aNil))) (aNil))))))
def b__law_levels (c : Orc) : Sm := sSeq (sSet 1 (eLst (aNil))) (sSeq (sFor (iRng1' (aCons (eCB fLen (aCons (eVar 0) (aNil))) (aNil))) (gN 2) (sSeq (sPar 3 4 (aCons (eLst (aCons (eTup (aCons (eVar 2) (aNil))) (aNil))) (aCons (eC (.int 0)) (aNil)))) (sSeq (sWhile 100000 (tV (e2 fNe (eVar 3) (eLst (aNil)))) (sSeq (sSet 4 (e2 fAdd (eVar 4) (eC (.int 1)))) (sSeq (sSet 5 (eLst (aNil))) (sSeq (sFor (iSeq (eVar 3)) (gN 6) (sSeq (sSet 7 (eLc [8] (iRng1' (aCons (eCB fLen (aCons (eVar 0) (aNil))) (aNil))) (gN 8) (tV (eCall c i__law_turned (aCons (e2 fIx (eVar 0) (eVar 8)) (aCons (e2 fIx (eVar 0) (e2 fIx (eVar 6) (eC (.int 0)))) (aNil))))) (eVar 8))) (sDrop (eM fExt (eVar 5) (aCons (eLc [8] (iSeq (eVar 7)) (gN 8) (tYesM) (e2 fAdd (eTup (aCons (eVar 8) (aNil))) (eVar 6))) (aNil)))))) (sSet 3 (eCB fSortD (aCons (eCB fDictP (aCons (eLc [6] (iSeq (eVar 5)) (gN 6) (tYesM) (eTup (aCons (eTup (aCons (e2 fIx (eVar 6) (eC (.int 0))) (aNil))) (aCons (eC (.bl true)) (aNil))))) (aNil))) (aNil)))))))) (sDrop (eM fApp (eVar 1) (aCons (eVar 4) (aNil))))))) (sRet (eCB fTuple (aCons (eVar 1) (aNil)))))
def b__law_history_right (c : Orc) : Sm := sSeq (sUn (gT (gCons' (gN 2) (gCons' (gN 3) (gNil')))) (eTup (aCons (e2 fIx (eVar 0) (eC (.int 0))) (aCons (eLst (aNil)) (aNil))))) (sSeq (sFor (iEnm (aCons (eVar 2) (aNil))) (gT (gCons' (gN 4) (gCons' (gN 5) (gNil')))) (sFor (iEnm (aCons (eVar 2) (aNil))) (gT (gCons' (gN 6) (gCons' (gN 7) (gNil')))) (sSeq (sSet 1 (eLst (aCons (eCall c i__law_in (aCons (eVar 5) (aCons (eVar 7) (aNil)))) (aCons (eCall c i__law_out (aCons (eVar 5) (aCons (eVar 7) (aNil)))) (aCons (eCall c i__law_turned (aCons (eVar 5) (aCons (eVar 7) (aNil)))) (aNil)))))) (sSeq (sFor (iRng1' (aCons (eC (.int 2)) (aNil))) (gN 8) (sIf (tV (e2 fNe (eLst (aCons (eCall c i_is_in (aCons (eVar 0) (aCons (eVar 4) (aCons (eVar 6) (aNil))))) (aCons (eCall c i_is_out (aCons (eVar 0) (aCons (eVar 4) (aCons (eVar 6) (aNil))))) (aCons (eCall c i_is_turned (aCons (eVar 0) (aCons (eVar 4) (aCons (eVar 6) (aNil))))) (aNil))))) (eVar 1))) (sRet (eC (.bl false))) (sNil))) (sSet 3 (e2 fAdd (eVar 3) (e2 fMul (eLst (aCons (eTup (aCons (eVar 4) (aCons (eVar 6) (aNil)))) (aNil))) (eCB fInt (aCons (e2 fIx (eVar 1) (eC (.int 2))) (aNil)))))))))) (sSeq (sIf (tOrM (tV (e2 fNe (eCall c i_turned_pairs (aCons (eVar 0) (aNil))) (eCB fTuple (aCons (eVar 3) (aNil))))) (tV (e2 fNe (eCall c i_turned_pairs (aCons (eVar 0) (aNil))) (eCB fTuple (aCons (eVar 3) (aNil)))))) (sRet (eC (.bl false))) (sNil)) (sSeq (sFor (iSeq (eVar 3)) (gT (gCons' (gN 4) (gCons' (gN 6) (gNil')))) (sIf (tV (e2 fNe (eLc [5, 7] (iSeq (eVar 3)) (gT (gCons' (gN 5) (gCons' (gN 7) (gNil')))) (tAndM (tV (e2 fEq (eVar 5) (eVar 6))) (tV (e2 fNotIn (eTup (aCons (eVar 4) (aCons (eVar 7) (aNil)))) (eVar 3)))) (eC (.int 1))) (eLst (aNil)))) (sRet (eC (.bl false))) (sNil))) (sSeq (sSet 1 (eCB fTuple (aCons (eLc [4, 9] (iEnm (aCons (eVar 2) (aNil))) (gT (gCons' (gN 4) (gCons' (gN 9) (gNil')))) (tV (eCall c i__law_early (aCons (eVar 9) (aNil)))) (eVar 4)) (aNil)))) (sSeq (sIf (tOrM (tV (e2 fNe (eCall c i_early (aCons (eVar 0) (aNil))) (eVar 1))) (tV (e2 fNe (eCall c i_early (aCons (eVar 0) (aNil))) (eVar 1)))) (sRet (eC (.bl false))) (sNil)) (sRet (eAnd (e2 fEq (eCall c i_longest_to (aCons (eVar 0) (aNil))) (eCall c i__law_levels (aCons (eVar 2) (aNil)))) (e2 fEq (eCall c i_longest_to (aCons (eVar 0) (aNil))) (eCall c i__law_levels (aCons (eVar 2) (aNil)))))))))))
def b_law (c : Orc) : Sm := sSeq (sSet 1 (eCall c i__law_begin (aCons (eVar 0) (aNil)))) (sSeq (sFor (iRng1' (aCons (eC (.int 6)) (aNil))) (gN 2) (sIf (tNotM (tV (eCall c i__law_history_right (aCons (eCall c i__law_history (aCons (eVar 1) (aCons (eC (.int 9)) (aCons (eC (.int 2)) (aNil))))) (aNil))))) (sRet (eC (.bl false))) (sNil))) (sSeq (sSet 3 (eCB fTuple (aCons (eLc [5] (iRng1' (aCons (eC (.int 12)) (aNil))) (gN 5) (tYesM) (eTup (aCons (eTup (aCons (e2 fMul (eC (.int 2)) (eVar 5)) (aCons (e2 fMul (eC (.int 2)) (eVar 5)) (aNil)))) (aCons (eTup (aCons (e2 fSub (eC (.int 50)) (e2 fMul (eC (.int 2)) (eVar 5))) (aCons (e2 fSub (eC (.int 50)) (e2 fMul (eC (.int 2)) (eVar 5))) (aNil)))) (aNil))))) (aNil)))) (sSeq (sIf (tOrM (tV (e2 fNe (eCall c i_longest_to (aCons (eTup (aCons (eVar 3) (aCons (eTup (aNil)) (aNil)))) (aNil))) (e2 fTupR2 (eC (.int 1)) (eC (.int 13))))) (tV (e2 fNe (eCB fLen (aCons (eCall c i_turned_pairs (aCons (eTup (aCons (eVar 3) (aCons (eTup (aNil)) (aNil)))) (aNil))) (aNil))) (eC (.int 66))))) (sRet (eC (.bl false))) (sNil)) (sSeq (sSet 4 (eTup (aCons (eTup (aCons (eTup (aCons (eTup (aCons (eC (.int 0)) (aCons (eC (.int 3)) (aNil)))) (aCons (eTup (aCons (eC (.int 4)) (aCons (eC (.int 5)) (aNil)))) (aNil)))) (aCons (eTup (aCons (eTup (aCons (eC (.int 3)) (aCons (eC (.int 6)) (aNil)))) (aCons (eTup (aCons (eC (.int 1)) (aCons (eC (.int 2)) (aNil)))) (aNil)))) (aCons (eTup (aCons (eTup (aCons (eC (.int 4)) (aCons (eC (.int 9)) (aNil)))) (aCons (eC .non) (aNil)))) (aNil))))) (aCons (eTup (aNil)) (aNil))))) (sRet (eAnd (e2 fEq (eCall c i_early (aCons (eVar 4) (aNil))) (eTup (aCons (eC (.int 1)) (aNil)))) (eAnd (e2 fEq (eCall c i_turned_pairs (aCons (eVar 4) (aNil))) (eTup (aNil))) (eAnd (e2 fIs (eCall c i_is_out (aCons (eVar 4) (aCons (eC (.int 1)) (aCons (eC (.int 0)) (aNil))))) (eC (.bl true))) (e2 fIs (eCall c i_is_in (aCons (eVar 4) (aCons (eC (.int 0)) (aCons (eC (.int 2)) (aNil))))) (eC (.bl true)))))))))))
def bsL : List (Option Bd) := [some ⟨1, 1, b_is_integer⟩, some ⟨3, 3, b_is_between⟩, some ⟨1, 2, b_is_call⟩, some ⟨1, 1, b_is_thing⟩, some ⟨1, 5, b_need_history⟩, some ⟨2, 2, b_need_number_of⟩, some ⟨2, 2, b_is_in_ahead⟩, some ⟨2, 2, b_is_out_ahead⟩, some ⟨2, 2, b_is_turned_with⟩, some ⟨1, 1, b_is_early⟩, some ⟨3, 3, b_need_two⟩, some ⟨3, 5, b_is_in⟩, some ⟨3, 5, b_is_out⟩, some ⟨3, 5, b_is_turned⟩, some ⟨1, 6, b_pairs_in⟩, some ⟨1, 1, b_turned_pairs⟩, some ⟨1, 3, b_early_in⟩, some ⟨1, 1, b_early⟩, some ⟨1, 8, b_levels_in⟩, some ⟨1, 1, b_longest_to⟩, some ⟨2, 2, b__law_mixed⟩, some ⟨1, 3, b__law_begin⟩, some ⟨2, 6, b__law_draw⟩, some ⟨2, 2, b__law_of⟩, some ⟨2, 2, b__law_in⟩, some ⟨2, 2, b__law_out⟩, some ⟨2, 2, b__law_turned⟩, some ⟨1, 1, b__law_early⟩, some ⟨1, 4, b__law_lot_right⟩, some ⟨3, 3, b__law_call⟩, some ⟨4, 10, b__law_queued⟩, some ⟨2, 8, b__law_things⟩, some ⟨3, 6, b__law_history⟩, some ⟨1, 9, b__law_levels⟩, some ⟨1, 10, b__law_history_right⟩, some ⟨1, 6, b_law⟩]
def bs (i : Nat) : Option Bd := bsL.getD i none
end L2.Z.Lw

set_option Elab.async false
set_option linter.all false
set_option maxRecDepth 100000
set_option maxHeartbeats 4000000
/-! PA: histories: is_integer to need_history. -/
namespace L2.Z.Lw
open PySem PySem.Spec PyProof.Rows
local macro_rules | `(tactic| walk_at "z1") => `(tactic| (first
  | ((with_reducible refine z_var ?_); refine ⟨_, rfl, ?_⟩)
  | with_reducible refine w_C ?_
  | with_reducible refine w_cons ?_
  | with_reducible refine w_nil ?_
  | with_reducible refine w_call ?_
  | with_reducible refine w_e2 ?_
  | with_reducible refine w_e1 ?_
  | with_reducible refine w_cb ?_
  | ((with_reducible refine z_mod ?_ ?_); (first | omega | (simp only [List.length_map, List.length_append, List.length_range]; omega)))
  | ((with_reducible refine z_div ?_ ?_ ?_); (omega); (omega))
  | ((with_reducible refine z_mul ?_ ?_); (first | (left; omega) | (right; omega)))
  | ((with_reducible refine z_pow ?_ ?_); (decide))
  | with_reducible refine z_fld (by kernel_rfl) (by kernel_rfl) ?_
  | ((with_reducible refine z_wo ?_); refine ⟨_, _, rfl, ?_⟩)
  | with_reducible refine w_tV ?_
  | ((with_reducible refine z_itR ?_ ?_); (first | omega | (simp only [List.length_map, List.length_append, List.length_range]; omega)))
  | ((with_reducible refine z_itR2 ?_ ?_); (omega))
  | ((with_reducible refine z_wt ?_); refine ⟨_, rfl, ?_⟩)
  | with_reducible refine ws_seq ?_
  | ((with_reducible refine sq_nx ?_); try simp only [List.set_cons_zero, List.set_cons_succ])
  | with_reducible refine sq_rt ?_
  | with_reducible refine sq_xc ?_
  | with_reducible refine fz_rt ?_
  | with_reducible refine fz_nx ?_
  | with_reducible refine fz_xc ?_
  | ((with_reducible refine lp_nx ?_); try simp only [List.set_cons_zero, List.set_cons_succ])
  | with_reducible refine lp_rt ?_
  | with_reducible refine lp_xc ?_
  | with_reducible refine lp_bk ?_
  | with_reducible refine lp_ct ?_
  | with_reducible refine ws_if ?_
  | with_reducible refine ws_set ?_
  | with_reducible refine ws_ret ?_
  | with_reducible refine ws_retN ?_
  | with_reducible refine ws_nil ?_
  | with_reducible refine ws_drop ?_
  | with_reducible refine w_tN ?_
  | with_reducible refine w_tA ?_
  | with_reducible refine w_tO ?_
  | with_reducible refine w_tY ?_
  | with_reducible refine wQ_t rfl ?_
  | with_reducible refine wQ_f rfl ?_
  | with_reducible refine wB_t rfl ?_
  | with_reducible refine wB_f rfl ?_
  | with_reducible refine w_tup ?_
  | with_reducible refine w_lst ?_
  | ((with_reducible refine z_wz ?_ ?_); (exact rfl))
  | with_reducible refine w_and ?_
  | with_reducible refine w_or ?_
  | with_reducible refine w_not ?_
  | with_reducible refine w_if ?_
  | with_reducible refine w_chain ?_
  | with_reducible refine ws_un ?_
  | with_reducible refine ws_par ?_
  | with_reducible refine ws_par3 ?_
  | with_reducible refine ws_sub ?_
  | with_reducible refine ws_raise ?_
  | with_reducible refine ws_for ?_
  | with_reducible refine w_lc ?_
  | with_reducible refine w_isq ?_
  | with_reducible refine w_irng1 ?_
  | with_reducible refine w_irng2 ?_
  | with_reducible refine w_ienm ?_
  | with_reducible refine w_ienmK ?_
  | with_reducible refine w_izp ?_
  | with_reducible refine w_sl ?_
  | with_reducible refine w_oN ?_
  | with_reducible refine w_oS ?_
  | with_reducible refine w_m ?_
  | ((with_reducible refine w_lam ?_); try simp only [List.replicate_succ, List.replicate_zero, Nat.reduceSub])
  | ((with_reducible refine sj_nx ?_); try simp only [List.set_cons_zero, List.set_cons_succ])
  | with_reducible refine sj_rt ?_
  | with_reducible refine sj_xc ?_
  | with_reducible refine sj_bk ?_
  | with_reducible refine sj_ct ?_
  | with_reducible refine ws_try ?_
  | with_reducible refine tr_nx ?_
  | with_reducible refine tr_rt ?_
  | with_reducible refine tr_xc ?_
  | with_reducible refine w_dict ?_
  | with_reducible refine w_pcons ?_
  | with_reducible refine w_pnil ?_
  | with_reducible refine rh_nx ?_
  | with_reducible refine rh_rt ?_
  | fail "z"))
local macro_rules | `(tactic| walk_at "z") => `(tactic| ((repeat' (walk_at "z1")); try dsimp only))
local macro_rules | `(tactic| walk_at "zF") => `(tactic| (refine wQ_f (by simp only [decide_eq_false_iff_not, decide_eq_true_eq, List.length_map, List.length_append, Int.not_lt, Bool.not_eq_eq_eq_not, Bool.not_true, Bool.not_false]; omega) ?_; walk_at "z"))
local macro_rules | `(tactic| walk_at "zT") => `(tactic| (refine wQ_t (by simp only [decide_eq_false_iff_not, decide_eq_true_eq, List.length_map, List.length_append, Int.not_lt, Bool.not_eq_eq_eq_not, Bool.not_true, Bool.not_false]; omega) ?_; walk_at "z"))
local macro_rules | `(tactic| walk_at "z0") => `(tactic| simp only [List.map_cons, List.map_nil, List.replicate_succ, List.replicate_zero, List.cons_append, List.nil_append, Nat.reduceSub, Nat.sub_self])
local macro_rules | `(tactic| walk_at "zc") => `(tactic| (walk_at "z0"; walk_at "z"))
abbrev Cal := Int × Int
abbrev Thg := Cal × Option Cal
abbrev Hst := List Thg × List Cal
def dCall (c : Cal) : D := .tup [.int c.1, .int c.2]
def dOpt : Option Cal → D
  | none => .non
  | some c => dCall c
def dThing (t : Thg) : D := .tup [dCall t.1, dOpt t.2]
def dHist (h : Hst) : D := .tup [.tup (h.1.map dThing), .tup (h.2.map dCall)]
def dInts (l : List Int) : D := .tup (l.map .int)
def inT (i : Int) : Bool := decide (-1000000000 ≤ i) && decide (i ≤ 1000000000)
def okC (c : Cal) : Bool := inT c.1 && inT c.2 && decide (c.1 ≤ c.2)
def okO : Option Cal → Bool
  | none => true
  | some c => okC c
def okTh (t : Thg) : Bool := okC t.1 && okO t.2
structure OkH (h : Hst) : Prop where
  n : h.1.length ≤ 12
  e : h.2.length ≤ 8
  t : ∀ t ∈ h.1, okTh t = true
  c : ∀ c ∈ h.2, okC c = true
theorem szl {n : Nat} (h : n ≤ 10000000) : n ≤ sizeLine := Nat.le_trans h (by decide)
section
variable {k : Nat} {S : Sto}
theorem s_is_integer {i : Int} : wp (callZ bs (k + 1) i_is_integer [.int i]) S (fun d S' => d = .bl true ∧ S' = S) noX := by
  refine call_go (b := b_is_integer) rfl rfl rfl ?_
  unfold b_is_integer
  walk_at "zc"
  exact ⟨rfl, rfl⟩
theorem s_is_between {i a b : Int} : wp (callZ bs (k + 2) i_is_between [.int i, .int a, .int b]) S (fun d S' => d = .bl (decide (a ≤ i) && decide (i ≤ b)) ∧ S' = S) noX := by
  refine call_go (b := b_is_between) rfl rfl rfl ?_
  unfold b_is_between
  walk_at "zc"
  refine s_is_integer.use ?_
  rintro d S1 ⟨rfl, rfl⟩
  walk_at "z"
  refine wB_c (fun h => ?_) (fun h => ?_)
  · walk_at "z"
    rw [h]
    exact ⟨by simp, rfl⟩
  · walk_at "z"
    rw [h]
    exact ⟨by simp, rfl⟩
theorem s_is_call {c : Cal} : wp (callZ bs (k + 3) i_is_call [dCall c]) S (fun d S' => d = .bl (okC c) ∧ Gr S S') noX := by
  refine call_go (b := b_is_call) rfl rfl rfl ?_
  unfold b_is_call dCall
  walk_at "zc"
  refine lc_F1 (as := [c.1, c.2]) (e := .int) (fun i => .bl (inT i)) (Nat.le_of_ble_eq_true rfl) (fun i hi S1 gr => ?_) (fun S1 gr hn g => ?_)
  · walk_at "z"
    refine s_is_between.use ?_
    rintro d S2 ⟨rfl, rfl⟩
    exact ⟨rfl, Gx.refl _ _⟩
  · walk_at "z"
    refine z_allM g ?_
    refine wB_c (fun h => ?_) (fun h => ?_)
    · walk_at "z"
      refine ⟨?_, gr⟩
      simp only [List.all_cons, List.all_nil, Bool.and_true] at h
      simp only [okC, h, Bool.true_and]
    · walk_at "z"
      refine ⟨?_, gr⟩
      simp only [List.all_cons, List.all_nil, Bool.and_true] at h
      simp only [okC, h, Bool.false_and]
theorem s_is_thing {t : Thg} : wp (callZ bs (k + 4) i_is_thing [dThing t]) S (fun d S' => d = .bl (okTh t) ∧ Gr S S') noX := by
  refine call_go (b := b_is_thing) rfl rfl rfl ?_
  obtain ⟨p, o⟩ := t
  unfold b_is_thing dThing
  walk_at "zc"
  refine s_is_call.use ?_
  rintro d S1 ⟨rfl, g1⟩
  walk_at "z"
  refine wQ_c (fun h => ?_) (fun h => ?_)
  · walk_at "z"
    simp only [Bool.not_eq_eq_eq_not, Bool.not_true] at h
    exact ⟨by simp only [okTh, h, Bool.false_and], g1⟩
  · simp only [Bool.not_eq_eq_eq_not, Bool.not_false] at h
    walk_at "z"
    cases o with
    | none =>
      walk_at "z"
      exact ⟨by simp only [okTh, h, okO, Bool.true_and], g1⟩
    | some c =>
      walk_at "z"
      refine s_is_call.use ?_
      rintro d S2 ⟨rfl, g2⟩
      walk_at "z"
      exact ⟨by simp only [okTh, h, okO, Bool.true_and], g1.trans g2⟩
theorem s_need_history {h : Hst} (H : OkH h) : wp (callZ bs (k + 5) i_need_history [dHist h]) S (fun d S' => d = dHist h ∧ Gr S S') noX := by
  refine call_go (b := b_need_history) rfl rfl rfl ?_
  unfold b_need_history
  walk_at "zc"
  have h1 := H.n
  have h2 := H.e
  walk_at "zF"
  refine for_E (fun i σ S' => ∃ a b, σ = [some (dHist h), some (.tup (h.1.map dThing)), some (.tup (h.2.map dCall)), a, b] ∧ Gr S S') ⟨none, none, rfl, Gx.refl _ _⟩ ?_ ?_
  · rintro i t σ S1 ht ⟨a, b, rfl, gr⟩
    walk_at "z"
    refine s_is_thing.use ?_
    rintro d S2 ⟨rfl, g2⟩
    rw [H.t t (List.mem_of_getElem? ht)]
    walk_at "z"
    exact ⟨_, _, rfl, gr.trans g2⟩
  rintro σ S1 ⟨a, b, rfl, gr⟩
  walk_at "z"
  walk_at "zF"
  refine for_E (fun i σ S' => ∃ a b, σ = [some (dHist h), some (.tup (h.1.map dThing)), some (.tup (h.2.map dCall)), a, b] ∧ Gr S S') ⟨_, _, rfl, gr⟩ ?_ ?_
  · rintro i t σ S1 ht ⟨a, b, rfl, gr⟩
    walk_at "z"
    refine s_is_call.use ?_
    rintro d S2 ⟨rfl, g2⟩
    rw [H.c t (List.mem_of_getElem? ht)]
    walk_at "z"
    exact ⟨_, _, rfl, gr.trans g2⟩
  rintro σ S1 ⟨a, b, rfl, gr⟩
  walk_at "z"
  exact ⟨rfl, gr⟩
end
end L2.Z.Lw

set_option Elab.async false
set_option linter.all false
set_option maxRecDepth 100000
set_option maxHeartbeats 4000000
/-! PD: what is drawn. -/
namespace L2.Z.Lw
open PySem PySem.Spec PyProof.Rows
local macro_rules | `(tactic| walk_at "z1") => `(tactic| (first
  | ((with_reducible refine z_var ?_); refine ⟨_, rfl, ?_⟩)
  | with_reducible refine w_C ?_
  | with_reducible refine w_cons ?_
  | with_reducible refine w_nil ?_
  | with_reducible refine w_call ?_
  | with_reducible refine w_e2 ?_
  | with_reducible refine w_e1 ?_
  | with_reducible refine w_cb ?_
  | ((with_reducible refine z_mod ?_ ?_); (first | omega | (simp only [List.length_map, List.length_append, List.length_range]; omega)))
  | ((with_reducible refine z_div ?_ ?_ ?_); (omega); (omega))
  | ((with_reducible refine z_mul ?_ ?_); (first | (left; omega) | (right; omega)))
  | ((with_reducible refine z_pow ?_ ?_); (decide))
  | with_reducible refine z_fld (by kernel_rfl) (by kernel_rfl) ?_
  | ((with_reducible refine z_wo ?_); refine ⟨_, _, rfl, ?_⟩)
  | with_reducible refine w_tV ?_
  | ((with_reducible refine z_itR ?_ ?_); (first | omega | (simp only [List.length_map, List.length_append, List.length_range]; omega)))
  | ((with_reducible refine z_itR2 ?_ ?_); (omega))
  | ((with_reducible refine z_wt ?_); refine ⟨_, rfl, ?_⟩)
  | with_reducible refine ws_seq ?_
  | ((with_reducible refine sq_nx ?_); try simp only [List.set_cons_zero, List.set_cons_succ])
  | with_reducible refine sq_rt ?_
  | with_reducible refine sq_xc ?_
  | with_reducible refine fz_rt ?_
  | with_reducible refine fz_nx ?_
  | with_reducible refine fz_xc ?_
  | ((with_reducible refine lp_nx ?_); try simp only [List.set_cons_zero, List.set_cons_succ])
  | with_reducible refine lp_rt ?_
  | with_reducible refine lp_xc ?_
  | with_reducible refine lp_bk ?_
  | with_reducible refine lp_ct ?_
  | with_reducible refine ws_if ?_
  | with_reducible refine ws_set ?_
  | with_reducible refine ws_ret ?_
  | with_reducible refine ws_retN ?_
  | with_reducible refine ws_nil ?_
  | with_reducible refine ws_drop ?_
  | with_reducible refine w_tN ?_
  | with_reducible refine w_tA ?_
  | with_reducible refine w_tO ?_
  | with_reducible refine w_tY ?_
  | with_reducible refine wQ_t rfl ?_
  | with_reducible refine wQ_f rfl ?_
  | with_reducible refine wB_t rfl ?_
  | with_reducible refine wB_f rfl ?_
  | with_reducible refine w_tup ?_
  | with_reducible refine w_lst ?_
  | ((with_reducible refine z_wz ?_ ?_); (exact rfl))
  | with_reducible refine w_and ?_
  | with_reducible refine w_or ?_
  | with_reducible refine w_not ?_
  | with_reducible refine w_if ?_
  | with_reducible refine w_chain ?_
  | with_reducible refine ws_un ?_
  | with_reducible refine ws_par ?_
  | with_reducible refine ws_par3 ?_
  | with_reducible refine ws_sub ?_
  | with_reducible refine ws_raise ?_
  | with_reducible refine ws_for ?_
  | with_reducible refine w_lc ?_
  | with_reducible refine w_isq ?_
  | with_reducible refine w_irng1 ?_
  | with_reducible refine w_irng2 ?_
  | with_reducible refine w_ienm ?_
  | with_reducible refine w_ienmK ?_
  | with_reducible refine w_izp ?_
  | with_reducible refine w_sl ?_
  | with_reducible refine w_oN ?_
  | with_reducible refine w_oS ?_
  | with_reducible refine w_m ?_
  | ((with_reducible refine w_lam ?_); try simp only [List.replicate_succ, List.replicate_zero, Nat.reduceSub])
  | ((with_reducible refine sj_nx ?_); try simp only [List.set_cons_zero, List.set_cons_succ])
  | with_reducible refine sj_rt ?_
  | with_reducible refine sj_xc ?_
  | with_reducible refine sj_bk ?_
  | with_reducible refine sj_ct ?_
  | with_reducible refine ws_try ?_
  | with_reducible refine tr_nx ?_
  | with_reducible refine tr_rt ?_
  | with_reducible refine tr_xc ?_
  | with_reducible refine w_dict ?_
  | with_reducible refine w_pcons ?_
  | with_reducible refine w_pnil ?_
  | with_reducible refine rh_nx ?_
  | with_reducible refine rh_rt ?_
  | fail "z"))
local macro_rules | `(tactic| walk_at "z") => `(tactic| ((repeat' (walk_at "z1")); try dsimp only))
local macro_rules | `(tactic| walk_at "zF") => `(tactic| (refine wQ_f (by simp only [decide_eq_false_iff_not, decide_eq_true_eq, List.length_map, List.length_append, Int.not_lt, Bool.not_eq_eq_eq_not, Bool.not_true, Bool.not_false]; omega) ?_; walk_at "z"))
local macro_rules | `(tactic| walk_at "zT") => `(tactic| (refine wQ_t (by simp only [decide_eq_false_iff_not, decide_eq_true_eq, List.length_map, List.length_append, Int.not_lt, Bool.not_eq_eq_eq_not, Bool.not_true, Bool.not_false]; omega) ?_; walk_at "z"))
local macro_rules | `(tactic| walk_at "z0") => `(tactic| simp only [List.map_cons, List.map_nil, List.replicate_succ, List.replicate_zero, List.cons_append, List.nil_append, Nat.reduceSub, Nat.sub_self])
local macro_rules | `(tactic| walk_at "zc") => `(tactic| (walk_at "z0"; walk_at "z"))
/-- where the drawing's state lies: its dict, its cells, what is left of them -/
structure Ds where
  st : Nat
  c : Nat
  l : Nat
def kvState (z : Ds) (at_ : Int) : List (Key × D) := [(Sum.inr "cells", .loc z.c), (Sum.inr "lefts", .loc z.l), (Sum.inr "at", .int at_), (Sum.inr "room", .int 0)]
def dState (z : Ds) (at_ : Int) : O := .dK (kvState z at_)
theorem put_at (z : Ds) (a b : Int) : putD (kvState z a) (Sum.inr "at") (.int b) = kvState z b := by kernel_rfl
structure StA (z : Ds) (cells lefts : List Int) (at_ : Int) (S : Sto) : Prop where
  d : S.get z.st = some (dState z at_)
  c : S.get z.c = some (.lst (cells.map .int))
  l : S.get z.l = some (.lst (lefts.map .int))
  n1 : z.st ≠ z.c
  n2 : z.st ≠ z.l
  n3 : z.c ≠ z.l
  len : lefts.length = cells.length
  pos : 0 < cells.length
  at0 : 0 ≤ at_
/-- after at most a draws -/
def Dw (z : Ds) (a : Int) (S : Sto) : Prop := ∃ cells lefts at_, StA z cells lefts at_ S ∧ at_ ≤ a
abbrev Gd (z : Ds) := Gx [z.st, z.l]
theorem Dw.mono {z : Ds} {a b : Int} {S : Sto} (h : Dw z a S) (q : a ≤ b) : Dw z b S := by
  obtain ⟨c, l, t, s, e⟩ := h
  exact ⟨c, l, t, s, Int.le_trans e q⟩
theorem StA.keep {z : Ds} {c l : List Int} {t : Int} {S S' : Sto} (h : StA z c l t S) (g : Gr S S') : StA z c l t S' := ⟨g.get h.d, g.get h.c, g.get h.l, h.n1, h.n2, h.n3, h.len, h.pos, h.at0⟩
theorem Dw.keep {z : Ds} {a : Int} {S S' : Sto} (h : Dw z a S) (g : Gr S S') : Dw z a S' := by
  obtain ⟨c, l, t, s, e⟩ := h
  exact ⟨c, l, t, s.keep g, e⟩
theorem Dw.lt {z : Ds} {a : Int} {S : Sto} (h : Dw z a S) : z.st < S.n ∧ z.c < S.n ∧ z.l < S.n := by
  obtain ⟨c, l, t, s, e⟩ := h
  exact ⟨Sto.lt_of s.d, Sto.lt_of s.c, Sto.lt_of s.l⟩
theorem Dw.push {z : Ds} {a : Int} {S : Sto} (h : Dw z a S) (o : O) : Dw z a (S.push o) := h.keep ((Gx.refl _ _).push o)
theorem StA.set {z : Ds} {c l : List Int} {t : Int} {S : Sto} {i : Nat} {o : O} (h : StA z c l t S) (h1 : i ≠ z.st) (h2 : i ≠ z.c) (h3 : i ≠ z.l) (hi : i < S.n) : StA z c l t (S.set i o) :=
  ⟨(Sto.get_set_ne (Ne.symm h1) hi).trans h.d, (Sto.get_set_ne (Ne.symm h2) hi).trans h.c, (Sto.get_set_ne (Ne.symm h3) hi).trans h.l, h.n1, h.n2, h.n3, h.len, h.pos, h.at0⟩
theorem Dw.set {z : Ds} {a : Int} {S : Sto} {i : Nat} {o : O} (h : Dw z a S) (h1 : i ≠ z.st) (h2 : i ≠ z.c) (h3 : i ≠ z.l) (hi : i < S.n) : Dw z a (S.set i o) := by
  obtain ⟨c, l, t, s, e⟩ := h
  exact ⟨c, l, t, s.set h1 h2 h3 hi, e⟩
section
variable {k : Nat} {S : Sto} {z : Ds} {a : Int}
theorem s_mixed {x t : Int} (h0 : 0 ≤ t) (h1 : t < 2 ^ 61) : wp (callZ bs (k + 1) i__law_mixed [.int x, .int t]) S (fun d S' => ∃ v, d = .int v ∧ 0 ≤ v ∧ v < 2147483629 ∧ S' = S) noX := by
  refine call_go (b := b__law_mixed) rfl rfl rfl ?_
  unfold b__law_mixed
  walk_at "zc"
  exact ⟨_, rfl, by omega, by omega, rfl⟩
theorem s_draw {many : Int} (h : Dw z a S) (ha : a < 2 ^ 60) (h1 : 0 < many) (h2 : many < 1073741824) : wp (callZ bs (k + 2) i__law_draw [.loc z.st, .int many]) S (fun d S' => ∃ v, d = .int v ∧ 0 ≤ v ∧ v < many ∧ Dw z (a + 1) S' ∧ Gd z S S') noX := by
  obtain ⟨cells, lefts, at_, s, hat⟩ := h
  refine call_go (b := b__law_draw) rfl rfl rfl ?_
  unfold b__law_draw
  walk_at "zc"
  refine z_ixK s.d (d := .int at_) rfl ?_
  walk_at "z"
  refine z_putK s.d (Nat.le_of_ble_eq_true rfl) ?_
  rw [put_at]
  have s1 : StA z cells lefts (at_ + 1) (S.set z.st (dState z (at_ + 1))) := by
    have hl := Sto.lt_of s.d
    exact ⟨Sto.get_set s.d, (Sto.get_set_ne (Ne.symm s.n1) hl).trans s.c, (Sto.get_set_ne (Ne.symm s.n2) hl).trans s.l, s.n1, s.n2, s.n3, s.len, s.pos, by have := s.at0; omega⟩
  have g1 : Gd z S (S.set z.st (dState z (at_ + 1))) := (Gx.refl _ _).set (.inl (by simp)) (Sto.lt_of s.d) _
  have h0 := s.at0
  have hp := s.pos
  change sq _ _ _ _ (S.set z.st (dState z (at_ + 1)))
  generalize S.set z.st (dState z (at_ + 1)) = S1 at s1 g1 ⊢
  walk_at "z"
  refine z_ixK s1.d (d := .loc z.c) rfl ?_
  walk_at "z"
  refine z_lenL s1.c ?_
  walk_at "z"
  refine z_ixK s1.d (d := .loc z.l) rfl ?_
  walk_at "z"
  rw [List.length_map]
  obtain ⟨j, hj⟩ : ∃ j : Nat, at_ % (cells.length : Int) = j := ⟨(at_ % (cells.length : Int)).toNat, by
    have := Int.emod_nonneg at_ (b := (cells.length : Int)) (by omega)
    omega⟩
  have hjl : j < cells.length := by
    have := Int.emod_lt_of_pos at_ (b := (cells.length : Int)) (by omega)
    omega
  rw [hj]
  have hjl2 : j < lefts.length := by rw [s.len]; exact hjl
  refine z_ixL s1.l (d := .int lefts[j]) (by rw [atD_nat, List.getElem?_map, List.getElem?_eq_getElem hjl2]; rfl) ?_
  walk_at "z"
  refine wQ_c (fun q => ?_) (fun q => ?_)
  · simp only [decide_eq_true_eq] at q
    walk_at "z"
    refine z_ixK s1.d (d := .loc z.l) rfl ?_
    walk_at "z"
    refine z_putL s1.l (j := j) (ixN_nat (by rw [List.length_map]; exact hjl2)) ?_
    walk_at "z"
    have hl := Sto.lt_of s1.l
    refine ⟨_, rfl, Int.emod_nonneg _ (by omega), Int.emod_lt_of_pos _ h1, ⟨cells, lefts.set j (lefts[j] / many), at_ + 1, ?_, by omega⟩, g1.set (.inl (by simp)) hl _⟩
    exact ⟨(Sto.get_set_ne s.n2 hl).trans s1.d, (Sto.get_set_ne s.n3 hl).trans s1.c, by rw [Sto.get_set s1.l, List.map_set], s.n1, s.n2, s.n3, by rw [List.length_set]; exact s.len, s.pos, by omega⟩
  · walk_at "z"
    refine z_ixK s1.d (d := .loc z.c) rfl ?_
    walk_at "z"
    refine z_ixL s1.c (d := .int cells[j]) (by rw [atD_nat, List.getElem?_map, List.getElem?_eq_getElem hjl]; rfl) ?_
    walk_at "z"
    refine (s_mixed h0 (by omega)).use ?_
    rintro d S2 ⟨v, rfl, hv0, hv1, rfl⟩
    walk_at "z"
    refine (s_mixed (by omega) (by omega)).use ?_
    rintro d S2 ⟨u, rfl, hu0, hu1, rfl⟩
    walk_at "z"
    refine (s_mixed (by omega) (by omega)).use ?_
    rintro d S2 ⟨w, rfl, hw0, hw1, rfl⟩
    walk_at "z"
    exact ⟨_, rfl, Int.emod_nonneg _ (by omega), Int.emod_lt_of_pos _ h1, ⟨cells, lefts, at_ + 1, s1, by omega⟩, g1⟩
theorem mrg (z : Ds) : mergeD [] [(Sum.inr "cells", .loc z.c), (Sum.inr "lefts", .loc z.l), (Sum.inr "at", .int 0), (Sum.inr "room", .int 0)] = kvState z 0 := by kernel_rfl
theorem s_begin {ns : List Int} (hn : ns.length ≤ 63) : wp (callZ bs (k + 1) i__law_begin [.scr ns]) S (fun d S' => ∃ z : Ds, d = .loc z.st ∧ Dw z 0 S' ∧ Gr S S' ∧ S.n ≤ z.c ∧ S.n ≤ z.l ∧ S.n ≤ z.st) noX := by
  refine call_go (b := b__law_begin) rfl rfl rfl ?_
  unfold b__law_begin
  walk_at "z0"
  refine ws_cut (fun σ S1 => ∃ (cells : List Int) (n : Nat), σ = [some (.scr ns), some (.loc n), none] ∧ Gr S S1 ∧ S.n ≤ n ∧ S1.get n = some (.lst (cells.map .int)) ∧ 0 < cells.length ∧ cells.length ≤ 63) ?_ ?_
  · walk_at "z"
    refine z_ne (p := .list (ns.map .int)) (r := .list []) rfl (pd_loc (Sto.get_push _ _) rfl) ?_
    walk_at "z"
    refine wQ_c (fun q => ?_) (fun q => ?_)
    · walk_at "z"
      refine ⟨ns, _, rfl, ((Gx.refl _ _).push _).push _, by simp, Sto.get_push _ _, ?_, hn⟩
      cases ns with
      | nil => cases q
      | cons a r => simp
    · walk_at "z"
      exact ⟨[0], _, rfl, ((Gx.refl _ _).push _).push _, by simp, Sto.get_push _ _, by decide, by decide⟩
  rintro σ S1 ⟨cells, n, rfl, gr, hn, g, hp, hl⟩
  walk_at "z"
  have g1 : (S1.push (.dK [])).get n = some (.lst (cells.map .int)) := (Sto.get_push_lt (Sto.lt_of g)).trans g
  refine z_itL g1 ?_
  refine lc_L1 g1 (fun c => .int (if 10 ^ 18 ≤ c then c else 0)) (szl (by omega)) (fun c hc S2 gr2 => ?_) (fun S2 gr2 hn2 g2 => ?_)
  · walk_at "z"
    refine wQ_c (fun q => ?_) (fun q => ?_)
    · simp only [decide_eq_true_eq] at q
      walk_at "z"
      exact ⟨by rw [if_pos (by exact q)], Gx.refl _ _⟩
    · simp only [decide_eq_false_iff_not] at q
      walk_at "z"
      exact ⟨by rw [if_neg (by exact q)], Gx.refl _ _⟩
  · walk_at "z"
    have hd : S2.get S1.n = some (.dK []) := gr2.get (Sto.get_push _ _)
    refine ⟨hd, Nat.le_of_ble_eq_true rfl, ?_⟩
    refine ⟨⟨S1.n, n, (S1.push (.dK [])).n⟩, rfl, ⟨cells, cells.map fun c => if 10 ^ 18 ≤ c then c else 0, 0, ?_, by omega⟩, ?_, hn, by have := gr.le; simp; omega, gr.le⟩
    · have hlt := Sto.lt_of hd
      have hnl := Sto.lt_of g
      refine ⟨?_, ?_, ?_, by show S1.n ≠ n; omega, by show S1.n ≠ S1.n + 1; omega, by show n ≠ S1.n + 1; omega, by simp, hp, by omega⟩
      · rw [Sto.get_set hd]; exact congrArg (fun l => some (O.dK l)) (mrg ⟨S1.n, n, (S1.push (.dK [])).n⟩)
      · exact (Sto.get_set_ne (by show n ≠ S1.n; omega) hlt).trans (gr2.get g1)
      · refine (Sto.get_set_ne (by show S1.n + 1 ≠ S1.n; omega) hlt).trans (g2.trans ?_)
        rw [List.map_map]; rfl
    · exact ((gr.push _).trans gr2).set (.inr gr.le) (Sto.lt_of hd) _
end
end L2.Z.Lw

set_option Elab.async false
set_option linter.all false
set_option maxRecDepth 100000
set_option maxHeartbeats 4000000
/-! PE: drawn calls, things, histories. -/
namespace L2.Z.Lw
open PySem PySem.Spec PyProof.Rows
local macro_rules | `(tactic| walk_at "z1") => `(tactic| (first
  | ((with_reducible refine z_var ?_); refine ⟨_, rfl, ?_⟩)
  | with_reducible refine w_C ?_
  | with_reducible refine w_cons ?_
  | with_reducible refine w_nil ?_
  | with_reducible refine w_call ?_
  | with_reducible refine w_e2 ?_
  | with_reducible refine w_e1 ?_
  | with_reducible refine w_cb ?_
  | ((with_reducible refine z_mod ?_ ?_); (first | omega | (simp only [List.length_map, List.length_append, List.length_range]; omega)))
  | ((with_reducible refine z_div ?_ ?_ ?_); (omega); (omega))
  | ((with_reducible refine z_mul ?_ ?_); (first | (left; omega) | (right; omega)))
  | ((with_reducible refine z_pow ?_ ?_); (decide))
  | with_reducible refine z_fld (by kernel_rfl) (by kernel_rfl) ?_
  | ((with_reducible refine z_wo ?_); refine ⟨_, _, rfl, ?_⟩)
  | with_reducible refine w_tV ?_
  | ((with_reducible refine z_itR ?_ ?_); (first | omega | (simp only [List.length_map, List.length_append, List.length_range]; omega)))
  | ((with_reducible refine z_itR2 ?_ ?_); (omega))
  | ((with_reducible refine z_wt ?_); refine ⟨_, rfl, ?_⟩)
  | with_reducible refine ws_seq ?_
  | ((with_reducible refine sq_nx ?_); try simp only [List.set_cons_zero, List.set_cons_succ])
  | with_reducible refine sq_rt ?_
  | with_reducible refine sq_xc ?_
  | with_reducible refine fz_rt ?_
  | with_reducible refine fz_nx ?_
  | with_reducible refine fz_xc ?_
  | ((with_reducible refine lp_nx ?_); try simp only [List.set_cons_zero, List.set_cons_succ])
  | with_reducible refine lp_rt ?_
  | with_reducible refine lp_xc ?_
  | with_reducible refine lp_bk ?_
  | with_reducible refine lp_ct ?_
  | with_reducible refine ws_if ?_
  | with_reducible refine ws_set ?_
  | with_reducible refine ws_ret ?_
  | with_reducible refine ws_retN ?_
  | with_reducible refine ws_nil ?_
  | with_reducible refine ws_drop ?_
  | with_reducible refine w_tN ?_
  | with_reducible refine w_tA ?_
  | with_reducible refine w_tO ?_
  | with_reducible refine w_tY ?_
  | with_reducible refine wQ_t rfl ?_
  | with_reducible refine wQ_f rfl ?_
  | with_reducible refine wB_t rfl ?_
  | with_reducible refine wB_f rfl ?_
  | with_reducible refine w_tup ?_
  | with_reducible refine w_lst ?_
  | ((with_reducible refine z_wz ?_ ?_); (exact rfl))
  | with_reducible refine w_and ?_
  | with_reducible refine w_or ?_
  | with_reducible refine w_not ?_
  | with_reducible refine w_if ?_
  | with_reducible refine w_chain ?_
  | with_reducible refine ws_un ?_
  | with_reducible refine ws_par ?_
  | with_reducible refine ws_par3 ?_
  | with_reducible refine ws_sub ?_
  | with_reducible refine ws_raise ?_
  | with_reducible refine ws_for ?_
  | with_reducible refine w_lc ?_
  | with_reducible refine w_isq ?_
  | with_reducible refine w_irng1 ?_
  | with_reducible refine w_irng2 ?_
  | with_reducible refine w_ienm ?_
  | with_reducible refine w_ienmK ?_
  | with_reducible refine w_izp ?_
  | with_reducible refine w_sl ?_
  | with_reducible refine w_oN ?_
  | with_reducible refine w_oS ?_
  | with_reducible refine w_m ?_
  | ((with_reducible refine w_lam ?_); try simp only [List.replicate_succ, List.replicate_zero, Nat.reduceSub])
  | ((with_reducible refine sj_nx ?_); try simp only [List.set_cons_zero, List.set_cons_succ])
  | with_reducible refine sj_rt ?_
  | with_reducible refine sj_xc ?_
  | with_reducible refine sj_bk ?_
  | with_reducible refine sj_ct ?_
  | with_reducible refine ws_try ?_
  | with_reducible refine tr_nx ?_
  | with_reducible refine tr_rt ?_
  | with_reducible refine tr_xc ?_
  | with_reducible refine w_dict ?_
  | with_reducible refine w_pcons ?_
  | with_reducible refine w_pnil ?_
  | with_reducible refine rh_nx ?_
  | with_reducible refine rh_rt ?_
  | fail "z"))
local macro_rules | `(tactic| walk_at "z") => `(tactic| ((repeat' (walk_at "z1")); try dsimp only))
local macro_rules | `(tactic| walk_at "zF") => `(tactic| (refine wQ_f (by simp only [decide_eq_false_iff_not, decide_eq_true_eq, List.length_map, List.length_append, Int.not_lt, Bool.not_eq_eq_eq_not, Bool.not_true, Bool.not_false]; omega) ?_; walk_at "z"))
local macro_rules | `(tactic| walk_at "zT") => `(tactic| (refine wQ_t (by simp only [decide_eq_false_iff_not, decide_eq_true_eq, List.length_map, List.length_append, Int.not_lt, Bool.not_eq_eq_eq_not, Bool.not_true, Bool.not_false]; omega) ?_; walk_at "z"))
local macro_rules | `(tactic| walk_at "z0") => `(tactic| simp only [List.map_cons, List.map_nil, List.replicate_succ, List.replicate_zero, List.cons_append, List.nil_append, Nat.reduceSub, Nat.sub_self])
local macro_rules | `(tactic| walk_at "zc") => `(tactic| (walk_at "z0"; walk_at "z"))
section
variable {k : Nat} {S : Sto} {z : Ds} {a : Int}
/-! ### calls, histories -/
theorem s_call {t m : Int} (h : Dw z a S) (ha : a < 2 ^ 59) (h1 : 0 ≤ m) (h2 : m < 1000) : wp (callZ bs (k + 3) i__law_call [.loc z.st, .int t, .int m]) S (fun d S' => ∃ c : Cal, d = dCall c ∧ t - m ≤ c.1 ∧ c.1 ≤ t ∧ t ≤ c.2 ∧ c.2 ≤ t + m ∧ Dw z (a + 2) S' ∧ Gd z S S') noX := by
  refine call_go (b := b__law_call) rfl rfl rfl ?_
  unfold b__law_call
  walk_at "zc"
  refine (s_draw h (by omega) (by omega) (by omega)).use ?_
  rintro d S1 ⟨u, rfl, hu0, hu1, w1, g1⟩
  walk_at "z"
  refine (s_draw w1 (by omega) (by omega) (by omega)).use ?_
  rintro d S2 ⟨v, rfl, hv0, hv1, w2, g2⟩
  walk_at "z"
  exact ⟨(t - u, t + v), rfl, by simp; omega, by simp; omega, by simp; omega, by simp; omega, w2.mono (by omega), g1.trans g2⟩
end
/-- a call within small bounds -/
def smC (c : Cal) : Prop := -1000 ≤ c.1 ∧ c.1 ≤ c.2 ∧ c.2 ≤ 1000
def smT (t : Thg) : Prop := smC t.1 ∧ ∀ c, t.2 = some c → smC c
theorem smC.ok {c : Cal} (h : smC c) : okC c = true := by
  obtain ⟨h1, h2, h3⟩ := h
  simp only [okC, inT, Bool.and_eq_true, decide_eq_true_eq]
  omega
theorem smT.ok {t : Thg} (h : smT t) : okTh t = true := by
  obtain ⟨c, o⟩ := t
  unfold okTh
  rw [h.1.ok]
  cases o with
  | none => rfl
  | some c => exact (h.2 c rfl).ok
/-- how the lists of _law_queued lie: the lines (of numbers below m), the things -/
structure Qd (L T : Nat) (ls : List Nat) (ts : List Thg) (m : Nat) (S : Sto) : Prop where
  l : S.get L = some (.lst (ls.map .loc))
  t : S.get T = some (.lst (ts.map dThing))
  q : ∀ n ∈ ls, ∃ zs : List Nat, S.get n = some (.lst (zs.map fun j => .int (j : Nat))) ∧ (∀ j ∈ zs, j < m) ∧ zs.length ≤ m
  s : ∀ t ∈ ts, smT t
theorem Qd.keep {L T m : Nat} {ls : List Nat} {ts : List Thg} {S S' : Sto} {z : Ds} {n0 : Nat} (h : Qd L T ls ts m S) (g : Gd z S S') (h1 : z.st < n0) (h2 : z.l < n0) (hL : n0 ≤ L) (hT : n0 ≤ T) (hn : ∀ n ∈ ls, n0 ≤ n) : Qd L T ls ts m S' := by
  have ne : ∀ n, n0 ≤ n → n ∉ [z.st, z.l] := fun n hn z => by
    simp only [List.mem_cons, List.not_mem_nil, or_false] at z
    omega
  exact ⟨g.get h.l (ne _ hL), g.get h.t (ne _ hT), fun n hm => by
    obtain ⟨zs, e, q⟩ := h.q n hm
    exact ⟨zs, g.get e (ne n (hn n hm)), q⟩, h.s⟩
theorem Qd.push {L T m : Nat} {ls : List Nat} {ts : List Thg} {S : Sto} (h : Qd L T ls ts m S) (o : O) : Qd L T ls ts m (S.push o) := by
  have key : ∀ {n : Nat} {u : O}, S.get n = some u → (S.push o).get n = some u := fun e => (Sto.get_push_lt (Sto.lt_of e)).trans e
  exact ⟨key h.l, key h.t, fun n hm => by
    obtain ⟨zs, e, q⟩ := h.q n hm
    exact ⟨zs, key e, q⟩, h.s⟩
/-- one of the lines is written -/
theorem Qd.setQ {L T m m' : Nat} {ls : List Nat} {ts : List Thg} {S : Sto} {n : Nat} {zs : List Nat} (h : Qd L T ls ts m S) (hm : m ≤ m') (hn : n ∈ ls) (hL : ∀ n ∈ ls, n ≠ L ∧ n ≠ T) (hz : ∀ j ∈ zs, j < m') (hl : zs.length ≤ m') : Qd L T ls ts m' (S.set n (.lst (zs.map fun j => .int (j : Nat)))) := by
  obtain ⟨ys, e, q⟩ := h.q n hn
  have hlt := Sto.lt_of e
  refine ⟨(Sto.get_set_ne (Ne.symm (hL n hn).1) hlt).trans h.l, (Sto.get_set_ne (Ne.symm (hL n hn).2) hlt).trans h.t, fun i hi => ?_, h.s⟩
  by_cases c : i = n
  · subst c
    exact ⟨zs, Sto.get_set e, hz, hl⟩
  · obtain ⟨xs, e2, q2, q3⟩ := h.q i hi
    exact ⟨xs, (Sto.get_set_ne c hlt).trans e2, fun j hj => Nat.lt_of_lt_of_le (q2 j hj) hm, Nat.le_trans q3 hm⟩
/-- the things are written -/
theorem Qd.setT {L T m : Nat} {ls : List Nat} {ts us : List Thg} {S : Sto} (h : Qd L T ls ts m S) (hL : ∀ n ∈ ls, n ≠ L ∧ n ≠ T) (hLT : L ≠ T) (hu : ∀ t ∈ us, smT t) : Qd L T ls us m (S.set T (.lst (us.map dThing))) := by
  have hlt := Sto.lt_of h.t
  refine ⟨(Sto.get_set_ne hLT hlt).trans h.l, Sto.get_set h.t, fun i hi => ?_, hu⟩
  obtain ⟨xs, e2, q2⟩ := h.q i hi
  exact ⟨xs, (Sto.get_set_ne (hL i hi).2 hlt).trans e2, q2⟩
theorem eqv_nil {ps : List PyData} : PyData.eqv (.list ps) (.list []) = ps.isEmpty := by cases ps <;> rfl
theorem pd_ints {S : Sto} {n : Nat} {zs : List Nat} (e : S.get n = some (.lst (zs.map fun j => .int (j : Nat)))) : toPD 40 S (.loc n) = some (.list (zs.map fun j => .int (j : Nat))) :=
  pd_loc e (toPDs_map (fun _ => pd_int) zs)
section
variable {k : Nat} {S : Sto} {z : Ds} {a : Int}
theorem s_queued {many : Nat} {queues most : Int} (h : Dw z a S) (ha : a < 2 ^ 58) (hm : many ≤ 100) (hq : 1 ≤ queues) (hq2 : queues ≤ 100) (h0 : 0 ≤ most) (h1 : most ≤ 100) :
    wp (callZ bs (k + 4) i__law_queued [.loc z.st, .int many, .int queues, .int most]) S (fun d S' => ∃ ts : List Thg, d = .tup (ts.map dThing) ∧ ts.length ≤ many ∧ (∀ t ∈ ts, smT t) ∧ Dw z (a + 2000) S' ∧ Gd z S S') noX := by
  have hz := h.lt
  refine call_go (b := b__law_queued) rfl rfl rfl ?_
  unfold b__law_queued
  walk_at "z0"
  refine ws_cut (fun σ S1 => ∃ (L T : Nat) (ls : List Nat), σ = [some (.loc z.st), some (.int many), some (.int queues), some (.int most), none, some (.loc L), some (.loc T), some (.int 0), none, none] ∧ S.n ≤ L ∧ S.n ≤ T ∧ L ≠ T ∧ (ls.length : Int) = queues ∧ (∀ n ∈ ls, S.n ≤ n ∧ n ≠ L ∧ n ≠ T) ∧ Dw z a S1 ∧ Gd z S S1 ∧ Qd L T ls [] 0 S1) ?_ ?_
  · walk_at "z"
    refine lc_inv (rngL 0 queues.toNat) (fun i acc S1 => ∃ ls : List Nat, acc = ls.map .loc ∧ ls.length = i ∧ Gr S S1 ∧ S.n < S1.n ∧ ∀ n ∈ ls, S.n < n ∧ S1.get n = some (.lst [])) (fun _ _ _ _ _ => nxt_rng) (by simp only [cnt, rngL_len]) (szl (by rw [rngL_len]; omega)) ⟨[], rfl, rfl, (Gx.refl _ _).push _, by simp, by simp⟩ ?_ ?_
    · rintro i x acc S1 hx ⟨ls, rfl, hl, gr, hn, hls⟩ g
      walk_at "z"
      have g2 : (S1.push (.lst [])).get S.n = some (.lst (ls.map .loc)) := (Sto.get_push_lt hn).trans g
      refine ⟨g2, fun _ => ⟨ls ++ [S1.n], by simp, by simp [hl], ((gr.push _).set (.inr (Nat.le_refl _)) (by simp; omega) _), by simp; omega, fun n hm => ?_⟩⟩
      rcases List.mem_append.mp hm with hm | hm
      · obtain ⟨q1, q2⟩ := hls n hm
        exact ⟨q1, (Sto.get_set_ne (by omega) (by simp; omega)).trans ((Sto.get_push_lt (Sto.lt_of q2)).trans q2)⟩
      · simp only [List.mem_cons, List.not_mem_nil, or_false] at hm
        subst hm
        exact ⟨hn, (Sto.get_set_ne (by omega) (by simp; omega)).trans (Sto.get_push _ _)⟩
    · rintro acc S1 ⟨ls, rfl, hl, gr, hn, hls⟩ g
      walk_at "z"
      rw [rngL_len] at hl
      refine ⟨S.n, S1.n, ls, rfl, Nat.le_refl _, gr.le, by omega, by omega, fun n hm => ?_, (h.keep gr).push _, (gr.push _).any _, ?_⟩
      · have q := hls n hm
        have := Sto.lt_of q.2
        exact ⟨by omega, by omega, by omega⟩
      · exact ⟨(Sto.get_push_lt hn).trans g, Sto.get_push _ _, fun n hm => ⟨[], (Sto.get_push_lt (Sto.lt_of (hls n hm).2)).trans (hls n hm).2, by simp, by simp⟩, by simp⟩
  intro σ S1 hJ
  obtain ⟨L, T, ls, hJ⟩ := hJ
  obtain ⟨hσ, hJ⟩ := hJ
  obtain ⟨hL, hT, hJ⟩ := hJ
  obtain ⟨hLT, hls, hJ⟩ := hJ
  obtain ⟨hln, w1, g1, qd⟩ := hJ
  subst hσ
  walk_at "z"
  refine for_rng (fun i σ S2 => ∃ (o4 o8 o9 : Option D) (tick : Int) (ts : List Thg), σ = [some (.loc z.st), some (.int many), some (.int queues), some (.int most), o4, some (.loc L), some (.loc T), some (.int tick), o8, o9] ∧ 0 ≤ tick ∧ tick ≤ 2 * i ∧ ts.length ≤ many ∧ Dw z (a + 5 * i) S2 ∧ Gd z S S2 ∧ Qd L T ls ts ts.length S2) ⟨none, none, none, 0, [], rfl, by omega, by omega, by simp, w1.mono (by omega), g1, qd⟩ ?_ ?_
  · rintro i σ S2 hi ⟨o4, o8, o9, tick, ts, rfl, ht0, ht1, hts, w2, g2, q2⟩
    refine ⟨_, rfl, ?_⟩
    have hlns : ∀ n ∈ ls, n ≠ L ∧ n ≠ T := fun n hm => (hln n hm).2
    have kp : ∀ {m : Nat} {us : List Thg} {S S' : Sto}, Qd L T ls us m S → Gd z S S' → Qd L T ls us m S' := fun q g => q.keep g hz.1 hz.2.2 hL hT fun n hm => (hln n hm).1
    have hTz : T ≠ z.st ∧ T ≠ z.c ∧ T ≠ z.l := by omega
    refine ws_cut (fun σ S3 => ∃ tk : Int, σ = [some (.loc z.st), some (.int many), some (.int queues), some (.int most), some (.int (0 + i)), some (.loc L), some (.loc T), some (.int tk), o8, o9] ∧ 0 ≤ tk ∧ tk ≤ 2 * (i + 1 : Nat) ∧ Dw z (a + 5 * i + 1) S3 ∧ Gd z S S3 ∧ Qd L T ls ts ts.length S3) ?_ ?_
    · walk_at "z"
      refine (s_draw w2 (by omega) (by omega) (by omega)).use ?_
      rintro d S3 ⟨u, rfl, hu0, hu1, w3, g3⟩
      walk_at "z"
      exact ⟨tick + u, rfl, by omega, by omega, w3, g2.trans g3, kp q2 g3⟩
    rintro σ S3 ⟨tk, rfl, htk0, htk1, w3, g3, q3⟩
    refine ws_cut (fun σ S4 => ∃ (spot : Int), σ = [some (.loc z.st), some (.int many), some (.int queues), some (.int most), some (.int (0 + i)), some (.loc L), some (.loc T), some (.int tk), some (.int spot), o9] ∧ 0 ≤ spot ∧ spot < queues ∧ Dw z (a + 5 * i + 2) S4 ∧ Gd z S S4 ∧ Qd L T ls ts ts.length S4) ?_ ?_
    · walk_at "z"
      refine (s_draw w3 (by omega) (by omega) (by omega)).use ?_
      rintro d S4 ⟨spot, rfl, hs0, hs1, w4, g4⟩
      walk_at "z"
      exact ⟨spot, rfl, hs0, hs1, w4.mono (by omega), g3.trans g4, kp q3 g4⟩
    rintro σ S4 ⟨spot, rfl, hs0, hs1, w4, g4, q4⟩
    have hsp : spot.toNat < ls.length := by omega
    have hat : atD (ls.map D.loc) spot = some (.loc ls[spot.toNat]) := by
      rw [atD_int _ hs0, List.getElem?_map, List.getElem?_eq_getElem hsp]; rfl
    have hmem : ls[spot.toNat] ∈ ls := List.getElem_mem hsp
    generalize hN : ls[spot.toNat] = N at hat hmem
    have hN2 := hln N hmem
    have hnz : N ≠ z.st ∧ N ≠ z.c ∧ N ≠ z.l := by omega
    obtain ⟨zs, hzs, hzb, hzl⟩ := q4.q N hmem
    refine ws_if (wp.imp (Q := fun b S5 => (b = true → ts.length < many) ∧ Dw z (a + 5 * i + 3) S5 ∧ Gd z S S5 ∧ Qd L T ls ts ts.length S5 ∧ S5.get N = some (.lst (zs.map fun j => .int (j : Nat)))) (E := noX) ?_ ?_ (fun _ _ z => z.elim))
    · walk_at "z"
      refine z_lenL q4.t ?_
      walk_at "z"
      have q5 := q4.push (.lst [])
      have z5 : (S4.push (.lst [])).get N = some (.lst (zs.map fun j => .int (j : Nat))) := (Sto.get_push_lt (Sto.lt_of hzs)).trans hzs
      refine wQ_c (fun c => ?_) (fun c => ⟨fun z => (by cases z), w4.mono (by omega), g4, q4, hzs⟩)
      simp only [decide_eq_true_eq, List.length_map] at c
      walk_at "z"
      refine z_ixL q4.l hat ?_
      walk_at "z"
      refine z_eq (pd_ints z5) (r := .list []) (pd_loc (Sto.get_push _ _) rfl) ?_
      walk_at "z"
      refine wQ_c (fun c2 => ⟨fun _ => by omega, (w4.push _).mono (by omega), g4.push _, q5, z5⟩) (fun c2 => ?_)
      walk_at "z"
      refine (s_draw (w4.push _) (by omega) (by omega) (by omega)).use ?_
      rintro d S6 ⟨v, rfl, hv0, hv1, w6, g6⟩
      walk_at "z"
      exact ⟨fun _ => by omega, w6.mono (by omega), (g4.push _).trans g6, kp q5 g6, g6.get z5 (by simp; omega)⟩
    rintro b S5 ⟨hb, w5, g5, q5, z5⟩
    have hN5 := Sto.lt_of z5
    refine wQ_c (fun c => ?_) (fun c => ?_)
    · have hlt := hb c
      walk_at "z"
      refine z_ixL q5.l hat ?_
      refine w_chkL z5 ?_
      walk_at "z"
      refine z_lenL q5.t ?_
      walk_at "z"
      refine z_app z5 (Nat.lt_of_lt_of_le (m := 1000) (by rw [List.length_map]; omega) (by decide)) ?_
      rw [List.length_map]
      have e : (zs.map fun j => D.int (j : Nat)) ++ [.int (ts.length : Nat)] = (zs ++ [ts.length]).map fun j => D.int (j : Nat) := by simp
      rw [e]
      have q6 := q5.setQ (m' := ts.length + 1) (zs := zs ++ [ts.length]) (by omega) hmem hlns (fun j hj => by
        rcases List.mem_append.mp hj with hj | hj
        · have := hzb j hj; omega
        · simp only [List.mem_cons, List.not_mem_nil, or_false] at hj; omega) (by simp; omega)
      have w6 := w5.set (o := .lst ((zs ++ [ts.length]).map fun j => .int (j : Nat))) hnz.1 hnz.2.1 hnz.2.2 hN5
      have g6 := g5.set (.inr hN2.1) hN5 (.lst ((zs ++ [ts.length]).map fun j => .int (j : Nat)))
      generalize S5.set N (.lst ((zs ++ [ts.length]).map fun j => .int (j : Nat))) = S6 at q6 w6 g6 ⊢
      walk_at "z"
      refine w_chkL q6.t ?_
      walk_at "z"
      refine (s_call w6 (by omega) h0 (by omega)).use ?_
      rintro d S7 ⟨cl, rfl, hc1, hc2, hc3, hc4, w7, g7⟩
      have q7 := kp q6 g7
      walk_at "z"
      refine z_app q7.t (Nat.lt_of_lt_of_le (m := 1000) (by rw [List.length_map]; omega) (by decide)) ?_
      have e2 : ts.map dThing ++ [.tup [dCall cl, .non]] = (ts ++ [(cl, none)]).map dThing := by simp [dThing, dOpt]
      rw [e2]
      have q8 := q7.setT (us := ts ++ [(cl, none)]) hlns hLT (fun t ht => by
        rcases List.mem_append.mp ht with ht | ht
        · exact q5.s t ht
        · simp only [List.mem_cons, List.not_mem_nil, or_false] at ht
          subst ht
          have smc : smC cl := ⟨by omega, by omega, by omega⟩
          exact ⟨smc, fun c hc => by cases hc⟩)
      have hT7 := Sto.lt_of q7.t
      have w8 := w7.set (o := .lst ((ts ++ [(cl, none)]).map dThing)) hTz.1 hTz.2.1 hTz.2.2 hT7
      have g8 := (g6.trans g7).set (.inr hT) hT7 (.lst ((ts ++ [(cl, none)]).map dThing))
      walk_at "z"
      exact ⟨_, _, _, tk, ts ++ [(cl, none)], rfl, htk0, htk1, by simp; omega, w8.mono (by omega), g8, by simpa using q8⟩
    · walk_at "z"
      refine z_ixL q5.l hat ?_
      walk_at "z"
      have q6 := q5.push (.lst [])
      have z6 : (S5.push (.lst [])).get N = some (.lst (zs.map fun j => .int (j : Nat))) := (Sto.get_push_lt hN5).trans z5
      refine z_ne (pd_ints z6) (r := .list []) (pd_loc (Sto.get_push _ _) rfl) ?_
      rw [eqv_nil]
      have w6 := w5.push (.lst [])
      have g6 := g5.push (.lst [])
      generalize S5.push (.lst []) = S6 at q6 z6 w6 g6 ⊢
      walk_at "z"
      refine wQ_c (fun c2 => ?_) (fun c2 => ?_)
      · cases zs with
        | nil => cases c2
        | cons j0 zr =>
          have hj0 := hzb j0 (by simp)
          walk_at "z"
          refine z_ixL q6.l hat ?_
          refine w_chkL z6 ?_
          walk_at "z"
          refine z_popAt z6 ?_
          have q7 := q6.setQ (m' := ts.length) (zs := zr) (Nat.le_refl _) hmem hlns (fun j hj => hzb j (by simp [hj])) (by simp only [List.length_cons] at hzl; omega)
          have hN6 := Sto.lt_of z6
          have w7 := w6.set (o := .lst (zr.map fun j => .int (j : Nat))) hnz.1 hnz.2.1 hnz.2.2 hN6
          have g7 := g6.set (.inr hN2.1) hN6 (.lst (zr.map fun j => .int (j : Nat)))
          change sq _ _ _ _ (S6.set N (.lst (zr.map fun j => .int (j : Nat))))
          generalize S6.set N (.lst (zr.map fun j => .int (j : Nat))) = S7 at q7 w7 g7 ⊢
          walk_at "z"
          refine z_ixL q7.t (d := dThing ts[j0]) (by rw [atD_nat, List.getElem?_map, List.getElem?_eq_getElem hj0]; rfl) ?_
          walk_at "z"
          refine (s_call w7 (by omega) h0 (by omega)).use ?_
          rintro d S8 ⟨cl, rfl, hc1, hc2, hc3, hc4, w8, g8⟩
          have q8 := kp q7 g8
          walk_at "z"
          refine z_putL q8.t (j := j0) (ixN_nat (by rw [List.length_map]; exact hj0)) ?_
          have e2 : (ts.map dThing).set j0 (.tup [dCall ts[j0].1, dCall cl]) = (ts.set j0 (ts[j0].1, some cl)).map dThing := by rw [List.map_set]; rfl
          rw [e2]
          have q9 := q8.setT (us := ts.set j0 (ts[j0].1, some cl)) hlns hLT (fun t ht => by
            rcases List.mem_or_eq_of_mem_set ht with ht | ht
            · exact q5.s t ht
            · subst ht
              refine ⟨(q5.s ts[j0] (List.getElem_mem hj0)).1, fun c hc => ?_⟩
              cases hc
              exact ⟨by omega, by omega, by omega⟩)
          have hT8 := Sto.lt_of q8.t
          have w9 := w8.set (o := .lst ((ts.set j0 (ts[j0].1, some cl)).map dThing)) hTz.1 hTz.2.1 hTz.2.2 hT8
          have g9 := (g7.trans g8).set (.inr hT) hT8 (.lst ((ts.set j0 (ts[j0].1, some cl)).map dThing))
          walk_at "z"
          exact ⟨_, _, _, tk, ts.set j0 (ts[j0].1, some cl), rfl, htk0, htk1, by simp; omega, w9.mono (by omega), g9, by simpa using q9⟩
      · walk_at "z"
        exact ⟨_, _, _, tk, ts, rfl, htk0, htk1, hts, w6.mono (by omega), g6, q6⟩
  · rintro σ S2 ⟨o4, o8, o9, tick, ts, rfl, ht0, ht1, hts, w2, g2, q2⟩
    walk_at "z"
    refine z_tupL q2.t ?_
    walk_at "z"
    exact ⟨ts, rfl, hts, q2.s, w2.mono (by omega), g2⟩
theorem s_things {many : Int} (h : Dw z a S) (ha : a < 2 ^ 57) (hm0 : 1 ≤ many) (hm : many ≤ 100) :
    wp (callZ bs (k + 5) i__law_things [.loc z.st, .int many]) S (fun d S' => ∃ ts : List Thg, d = .tup (ts.map dThing) ∧ (ts.length : Int) ≤ many ∧ (∀ t ∈ ts, smT t) ∧ Dw z (a + 3000) S' ∧ Gd z S S') noX := by
  have hz := h.lt
  refine call_go (b := b__law_things) rfl rfl rfl ?_
  unfold b__law_things
  walk_at "zc"
  refine (s_draw h (by omega) (by omega) (by omega)).use ?_
  rintro d S1 ⟨v, rfl, hv0, hv1, w1, g1⟩
  walk_at "z"
  refine (s_draw w1 (by omega) (by omega) (by omega)).use ?_
  rintro d S2 ⟨u, rfl, hu0, hu1, w2, g2⟩
  obtain ⟨n, hn⟩ : ∃ n : Nat, 1 + v = n := ⟨(1 + v).toNat, by omega⟩
  rw [hn]
  walk_at "z"
  refine wQ_c (fun c => ?_) (fun c => ?_)
  · simp only [decide_eq_true_eq] at c
    walk_at "z"
    refine (s_queued w2 (by omega) (by omega) (by omega) (by omega) (by omega) (by omega)).use ?_
    rintro d S3 ⟨ts, rfl, hl, hs, w3, g3⟩
    walk_at "z"
    exact ⟨ts, rfl, by omega, hs, w3.mono (by omega), (g1.trans g2).trans g3⟩
  walk_at "z"
  have hg2 := g1.le
  have hg2' := g2.le
  refine for_rng (fun i σ S3 => ∃ (o3 o6 o7 : Option D) (ts : List Thg), σ = [some (.loc z.st), some (.int many), some (.loc S2.n), o3, some (.int n), some (.int u), o6, o7] ∧ ts.length = i ∧ (∀ t ∈ ts, smT t) ∧ S3.get S2.n = some (.lst (ts.map dThing)) ∧ Dw z (a + 2 + 7 * i) S3 ∧ Gd z S S3) ⟨_, _, _, [], rfl, rfl, by simp, Sto.get_push _ _, (w2.push _).mono (by omega), (g1.trans g2).push _⟩ ?_ ?_
  · rintro i σ S3 hi ⟨o3, o6, o7, ts, rfl, hl, hs, hr, w3, g3⟩
    have ne : S2.n ∉ [z.st, z.l] := by simp; omega
    walk_at "z"
    refine (s_draw w3 (by omega) (by omega) (by omega)).use ?_
    rintro d S4 ⟨x4, rfl, hx0, hx1, w4, g4⟩
    walk_at "z"
    refine (s_call w4 (by omega) (by omega) (by omega)).use ?_
    rintro d S5 ⟨c1, rfl, hc1, hc2, hc3, hc4, w5, g5⟩
    walk_at "z"
    refine (s_draw w5 (by omega) (by omega) (by omega)).use ?_
    rintro d S6 ⟨x6, rfl, hy0, hy1, w6, g6⟩
    walk_at "z"
    refine (s_call w6 (by omega) (by omega) (by omega)).use ?_
    rintro d S7 ⟨c2, rfl, hd1, hd2, hd3, hd4, w7, g7⟩
    have r7 := g7.get (g6.get (g5.get (g4.get hr ne) ne) ne) ne
    walk_at "z"
    refine w_chkL r7 ?_
    walk_at "z"
    refine (s_draw w7 (by omega) (by omega) (by omega)).use ?_
    rintro d S8 ⟨x8, rfl, he0, he1, w8, g8⟩
    have r8 := g8.get r7 ne
    have g38 := (((((g3.trans g4).trans g5).trans g6).trans g7).trans g8)
    have hlt := Sto.lt_of r8
    have sm1 : smC c1 := ⟨by omega, by omega, by omega⟩
    have sm2 : smC c2 := ⟨by omega, by omega, by omega⟩
    have fin : ∀ o : Option Cal, (∀ c, o = some c → smC c) → ∃ (o3 o6 o7 : Option D) (ts' : List Thg), [some (D.loc z.st), some (.int many), some (.loc S2.n), some (.int (0 + i)), some (.int n), some (.int u), some (dCall c1), some (dCall c2)] = [some (.loc z.st), some (.int many), some (.loc S2.n), o3, some (.int n), some (.int u), o6, o7] ∧ ts'.length = i + 1 ∧ (∀ t ∈ ts', smT t) ∧ (S8.set S2.n (.lst (ts.map dThing ++ [.tup [dCall c1, dOpt o]]))).get S2.n = some (.lst (ts'.map dThing)) ∧ Dw z (a + 2 + 7 * (i + 1 : Nat)) (S8.set S2.n (.lst (ts.map dThing ++ [.tup [dCall c1, dOpt o]]))) ∧ Gd z S (S8.set S2.n (.lst (ts.map dThing ++ [.tup [dCall c1, dOpt o]]))) := by
      intro o ho
      refine ⟨_, _, _, ts ++ [(c1, o)], rfl, by simp [hl], fun t ht => ?_, by rw [Sto.get_set r8]; simp [dThing], (w8.set (by omega) (by omega) (by omega) hlt).mono (by omega), g38.set (.inr (by omega)) hlt _⟩
      rcases List.mem_append.mp ht with ht | ht
      · exact hs t ht
      · simp only [List.mem_cons, List.not_mem_nil, or_false] at ht
        subst ht
        exact ⟨sm1, ho⟩
    walk_at "z"
    refine wQ_c (fun c => ?_) (fun c => ?_)
    · walk_at "z"
      refine z_app r8 (Nat.lt_of_lt_of_le (m := 1000) (by rw [List.length_map]; omega) (by decide)) ?_
      walk_at "z"
      exact fin (some c2) (fun c hc => by cases hc; exact sm2)
    · walk_at "z"
      refine z_app r8 (Nat.lt_of_lt_of_le (m := 1000) (by rw [List.length_map]; omega) (by decide)) ?_
      walk_at "z"
      exact fin none (fun c hc => by cases hc)
  · rintro σ S3 ⟨o3, o6, o7, ts, rfl, hl, hs, hr, w3, g3⟩
    walk_at "z"
    refine z_tupL hr ?_
    walk_at "z"
    exact ⟨ts, rfl, by omega, hs, w3.mono (by omega), g3⟩
structure SmH (m f : Int) (h : Hst) : Prop where
  n : (h.1.length : Int) ≤ m
  e : (h.2.length : Int) ≤ f
  t : ∀ t ∈ h.1, smT t
  c : ∀ c ∈ h.2, smC c
theorem SmH.ok {m f : Int} {h : Hst} (H : SmH m f h) (hm : m ≤ 12) (hf : f ≤ 8) : OkH h := ⟨by have := H.n; omega, by have := H.e; omega, fun t ht => (H.t t ht).ok, fun c hc => (H.c c hc).ok⟩
theorem s_history {many few : Int} (h : Dw z a S) (ha : a < 2 ^ 56) (hm0 : 1 ≤ many) (hm : many ≤ 100) (hf0 : 0 ≤ few) (hf : few ≤ 100) :
    wp (callZ bs (k + 6) i__law_history [.loc z.st, .int many, .int few]) S (fun d S' => ∃ h : Hst, d = dHist h ∧ SmH many few h ∧ Dw z (a + 4000) S' ∧ Gd z S S') noX := by
  have hz := h.lt
  refine call_go (b := b__law_history) rfl rfl rfl ?_
  unfold b__law_history
  walk_at "zc"
  refine (s_things h (by omega) (by omega) (by omega)).use ?_
  rintro d S1 ⟨ts, rfl, hl, hs, w1, g1⟩
  walk_at "z"
  refine (s_draw w1 (by omega) (by omega) (by omega)).use ?_
  rintro d S2 ⟨u, rfl, hu0, hu1, w2, g2⟩
  walk_at "z"
  have hg1 := g1.le
  have hg2 := g2.le
  refine lc_inv (rngL 0 u.toNat) (fun i acc S3 => ∃ cs : List Cal, acc = cs.map dCall ∧ cs.length = i ∧ (∀ c ∈ cs, smC c) ∧ Dw z (a + 3001 + 3 * i) S3 ∧ Gd z S S3 ∧ S2.n < S3.n) (fun _ _ _ _ _ => nxt_rng) (by simp only [cnt, rngL_len]) (szl (by rw [rngL_len]; omega)) ⟨[], rfl, rfl, by simp, (w2.push _).mono (by omega), (g1.trans g2).push _, by simp⟩ ?_ ?_
  · rintro i x acc S3 hx ⟨cs, rfl, hcl, hcs, w3, g3, hn3⟩ g
    have hi : i < u.toNat := by
      have := (List.getElem?_eq_some_iff.mp hx).1
      rw [rngL_len] at this; exact this
    have ne : S2.n ∉ [z.st, z.l] := by simp; omega
    walk_at "z"
    refine (s_draw w3 (by omega) (by omega) (by omega)).use ?_
    rintro d S4 ⟨x4, rfl, hx0, hx1, w4, g4⟩
    walk_at "z"
    refine (s_call w4 (by omega) (by omega) (by omega)).use ?_
    rintro d S5 ⟨c1, rfl, hc1, hc2, hc3, hc4, w5, g5⟩
    have r5 := g5.get (g4.get g ne) ne
    have hlt := Sto.lt_of r5
    refine ⟨r5, fun _ => ⟨cs ++ [c1], by simp, by simp [hcl], fun c hc => ?_, (w5.set (by omega) (by omega) (by omega) hlt).mono (by omega), ((g3.trans g4).trans g5).set (.inr (by omega)) hlt _, hlt⟩⟩
    rcases List.mem_append.mp hc with hc | hc
    · exact hcs c hc
    · simp only [List.mem_cons, List.not_mem_nil, or_false] at hc
      subst hc
      exact ⟨by omega, by omega, by omega⟩
  · rintro acc S3 ⟨cs, rfl, hcl, hcs, w3, g3, hn3⟩ g
    rw [rngL_len] at hcl
    rw [rngL_len] at w3
    walk_at "z"
    refine z_tupL g ?_
    walk_at "z"
    exact ⟨(ts, cs), rfl, ⟨hl, by simp only; omega, hs, hcs⟩, w3.mono (by omega), g3⟩
end
end L2.Z.Lw

set_option Elab.async false
set_option linter.all false
set_option maxRecDepth 100000
set_option maxHeartbeats 4000000
/-! PF: histories as data. -/
namespace L2.Z.Lw
open PySem PySem.Spec PyProof.Rows
local macro_rules | `(tactic| walk_at "z1") => `(tactic| (first
  | ((with_reducible refine z_var ?_); refine ⟨_, rfl, ?_⟩)
  | with_reducible refine w_C ?_
  | with_reducible refine w_cons ?_
  | with_reducible refine w_nil ?_
  | with_reducible refine w_call ?_
  | with_reducible refine w_e2 ?_
  | with_reducible refine w_e1 ?_
  | with_reducible refine w_cb ?_
  | ((with_reducible refine z_mod ?_ ?_); (first | omega | (simp only [List.length_map, List.length_append, List.length_range]; omega)))
  | ((with_reducible refine z_div ?_ ?_ ?_); (omega); (omega))
  | ((with_reducible refine z_mul ?_ ?_); (first | (left; omega) | (right; omega)))
  | ((with_reducible refine z_pow ?_ ?_); (decide))
  | with_reducible refine z_fld (by kernel_rfl) (by kernel_rfl) ?_
  | ((with_reducible refine z_wo ?_); refine ⟨_, _, rfl, ?_⟩)
  | with_reducible refine w_tV ?_
  | ((with_reducible refine z_itR ?_ ?_); (first | omega | (simp only [List.length_map, List.length_append, List.length_range]; omega)))
  | ((with_reducible refine z_itR2 ?_ ?_); (omega))
  | ((with_reducible refine z_wt ?_); refine ⟨_, rfl, ?_⟩)
  | with_reducible refine ws_seq ?_
  | ((with_reducible refine sq_nx ?_); try simp only [List.set_cons_zero, List.set_cons_succ])
  | with_reducible refine sq_rt ?_
  | with_reducible refine sq_xc ?_
  | with_reducible refine fz_rt ?_
  | with_reducible refine fz_nx ?_
  | with_reducible refine fz_xc ?_
  | ((with_reducible refine lp_nx ?_); try simp only [List.set_cons_zero, List.set_cons_succ])
  | with_reducible refine lp_rt ?_
  | with_reducible refine lp_xc ?_
  | with_reducible refine lp_bk ?_
  | with_reducible refine lp_ct ?_
  | with_reducible refine ws_if ?_
  | with_reducible refine ws_set ?_
  | with_reducible refine ws_ret ?_
  | with_reducible refine ws_retN ?_
  | with_reducible refine ws_nil ?_
  | with_reducible refine ws_drop ?_
  | with_reducible refine w_tN ?_
  | with_reducible refine w_tA ?_
  | with_reducible refine w_tO ?_
  | with_reducible refine w_tY ?_
  | with_reducible refine wQ_t rfl ?_
  | with_reducible refine wQ_f rfl ?_
  | with_reducible refine wB_t rfl ?_
  | with_reducible refine wB_f rfl ?_
  | with_reducible refine w_tup ?_
  | with_reducible refine w_lst ?_
  | ((with_reducible refine z_wz ?_ ?_); (exact rfl))
  | with_reducible refine w_and ?_
  | with_reducible refine w_or ?_
  | with_reducible refine w_not ?_
  | with_reducible refine w_if ?_
  | with_reducible refine w_chain ?_
  | with_reducible refine ws_un ?_
  | with_reducible refine ws_par ?_
  | with_reducible refine ws_par3 ?_
  | with_reducible refine ws_sub ?_
  | with_reducible refine ws_raise ?_
  | with_reducible refine ws_for ?_
  | with_reducible refine w_lc ?_
  | with_reducible refine w_isq ?_
  | with_reducible refine w_irng1 ?_
  | with_reducible refine w_irng2 ?_
  | with_reducible refine w_ienm ?_
  | with_reducible refine w_ienmK ?_
  | with_reducible refine w_izp ?_
  | with_reducible refine w_sl ?_
  | with_reducible refine w_oN ?_
  | with_reducible refine w_oS ?_
  | with_reducible refine w_m ?_
  | ((with_reducible refine w_lam ?_); try simp only [List.replicate_succ, List.replicate_zero, Nat.reduceSub])
  | ((with_reducible refine sj_nx ?_); try simp only [List.set_cons_zero, List.set_cons_succ])
  | with_reducible refine sj_rt ?_
  | with_reducible refine sj_xc ?_
  | with_reducible refine sj_bk ?_
  | with_reducible refine sj_ct ?_
  | with_reducible refine ws_try ?_
  | with_reducible refine tr_nx ?_
  | with_reducible refine tr_rt ?_
  | with_reducible refine tr_xc ?_
  | with_reducible refine w_dict ?_
  | with_reducible refine w_pcons ?_
  | with_reducible refine w_pnil ?_
  | with_reducible refine rh_nx ?_
  | with_reducible refine rh_rt ?_
  | fail "z"))
local macro_rules | `(tactic| walk_at "z") => `(tactic| ((repeat' (walk_at "z1")); try dsimp only))
local macro_rules | `(tactic| walk_at "zF") => `(tactic| (refine wQ_f (by simp only [decide_eq_false_iff_not, decide_eq_true_eq, List.length_map, List.length_append, Int.not_lt, Bool.not_eq_eq_eq_not, Bool.not_true, Bool.not_false]; omega) ?_; walk_at "z"))
local macro_rules | `(tactic| walk_at "zT") => `(tactic| (refine wQ_t (by simp only [decide_eq_false_iff_not, decide_eq_true_eq, List.length_map, List.length_append, Int.not_lt, Bool.not_eq_eq_eq_not, Bool.not_true, Bool.not_false]; omega) ?_; walk_at "z"))
local macro_rules | `(tactic| walk_at "z0") => `(tactic| simp only [List.map_cons, List.map_nil, List.replicate_succ, List.replicate_zero, List.cons_append, List.nil_append, Nat.reduceSub, Nat.sub_self])
local macro_rules | `(tactic| walk_at "zc") => `(tactic| (walk_at "z0"; walk_at "z"))
def pCall (c : Cal) : PyData := .tuple [.int c.1, .int c.2]
def pOpt : Option Cal → PyData
  | none => .none
  | some c => pCall c
def pThing (t : Thg) : PyData := .tuple [pCall t.1, pOpt t.2]
def pHist (h : Hst) : PyData := .tuple [.tuple (h.1.map pThing), .tuple (h.2.map pCall)]
theorem pd_call {S : Sto} {n : Nat} {c : Cal} : toPD (n + 1) S (dCall c) = some (pCall c) := by
  refine pd_tup ?_
  simp only [toPDs, pd_int]
theorem pd_opt {S : Sto} {n : Nat} {c : Option Cal} : toPD (n + 1) S (dOpt c) = some (pOpt c) := by
  cases c with
  | none => rfl
  | some c => exact pd_call
theorem pd_thing {S : Sto} {n : Nat} {t : Thg} : toPD (n + 2) S (dThing t) = some (pThing t) := by
  refine pd_tup ?_
  simp only [toPDs, pd_call, pd_opt]
theorem pd_hist {S : Sto} {n : Nat} {h : Hst} : toPD (n + 4) S (dHist h) = some (pHist h) := by
  refine pd_tup ?_
  have e1 : toPD (n + 3) S (.tup (h.1.map dThing)) = some (.tuple (h.1.map pThing)) := pd_tup (toPDs_map (fun _ => pd_thing) _)
  have e2 : toPD (n + 3) S (.tup (h.2.map dCall)) = some (.tuple (h.2.map pCall)) := pd_tup (toPDs_map (fun _ => pd_call) _)
  simp only [toPDs, e1, e2]
theorem eqvAll_map {α : Type} {g : α → PyData} (h : ∀ a, PyData.eqv (g a) (g a) = true) : ∀ as : List α, PyData.eqvAll (as.map g) (as.map g) = true
  | [] => rfl
  | a :: as => by simp only [List.map_cons, PyData.eqvAll, h a, eqvAll_map h as, Bool.and_self]
theorem eqv_call (c : Cal) : PyData.eqv (pCall c) (pCall c) = true := by simp [pCall, PyData.eqv, PyData.eqvAll]
theorem eqv_opt (c : Option Cal) : PyData.eqv (pOpt c) (pOpt c) = true := by
  cases c with
  | none => rfl
  | some c => exact eqv_call c
theorem eqv_thing (t : Thg) : PyData.eqv (pThing t) (pThing t) = true := by simp [pThing, PyData.eqv, PyData.eqvAll, eqv_call, eqv_opt]
theorem eqv_hist (h : Hst) : PyData.eqv (pHist h) (pHist h) = true := by
  simp [pHist, PyData.eqv, PyData.eqvAll, eqvAll_map eqv_thing, eqvAll_map eqv_call]
section
variable {S : Sto} {Q : D → Sto → Prop}
theorem z_neH {h : Hst} (q : Q (.bl false) S) : wo (fNe (dHist h) (dHist h) S) Q := by
  refine z_ne pd_hist pd_hist ?_
  rw [eqv_hist]; exact q
theorem z_eqH {h : Hst} (q : Q (.bl true) S) : wo (fEq (dHist h) (dHist h) S) Q := by
  refine z_eq pd_hist pd_hist ?_
  rw [eqv_hist]; exact q
end
end L2.Z.Lw

set_option Elab.async false
set_option linter.all false
set_option maxRecDepth 100000
set_option maxHeartbeats 4000000
/-! PH: what is out of turn with what (the package's turns). -/
namespace L2.Z.Lw
open PySem PySem.Spec PyProof.Rows
local macro_rules | `(tactic| walk_at "z1") => `(tactic| (first
  | ((with_reducible refine z_var ?_); refine ⟨_, rfl, ?_⟩)
  | with_reducible refine w_C ?_
  | with_reducible refine w_cons ?_
  | with_reducible refine w_nil ?_
  | with_reducible refine w_call ?_
  | with_reducible refine w_e2 ?_
  | with_reducible refine w_e1 ?_
  | with_reducible refine w_cb ?_
  | ((with_reducible refine z_mod ?_ ?_); (first | omega | (simp only [List.length_map, List.length_append, List.length_range]; omega)))
  | ((with_reducible refine z_div ?_ ?_ ?_); (omega); (omega))
  | ((with_reducible refine z_mul ?_ ?_); (first | (left; omega) | (right; omega)))
  | ((with_reducible refine z_pow ?_ ?_); (decide))
  | with_reducible refine z_fld (by kernel_rfl) (by kernel_rfl) ?_
  | ((with_reducible refine z_wo ?_); refine ⟨_, _, rfl, ?_⟩)
  | with_reducible refine w_tV ?_
  | ((with_reducible refine z_itR ?_ ?_); (first | omega | (simp only [List.length_map, List.length_append, List.length_range]; omega)))
  | ((with_reducible refine z_itR2 ?_ ?_); (omega))
  | ((with_reducible refine z_wt ?_); refine ⟨_, rfl, ?_⟩)
  | with_reducible refine ws_seq ?_
  | ((with_reducible refine sq_nx ?_); try simp only [List.set_cons_zero, List.set_cons_succ])
  | with_reducible refine sq_rt ?_
  | with_reducible refine sq_xc ?_
  | with_reducible refine fz_rt ?_
  | with_reducible refine fz_nx ?_
  | with_reducible refine fz_xc ?_
  | ((with_reducible refine lp_nx ?_); try simp only [List.set_cons_zero, List.set_cons_succ])
  | with_reducible refine lp_rt ?_
  | with_reducible refine lp_xc ?_
  | with_reducible refine lp_bk ?_
  | with_reducible refine lp_ct ?_
  | with_reducible refine ws_if ?_
  | with_reducible refine ws_set ?_
  | with_reducible refine ws_ret ?_
  | with_reducible refine ws_retN ?_
  | with_reducible refine ws_nil ?_
  | with_reducible refine ws_drop ?_
  | with_reducible refine w_tN ?_
  | with_reducible refine w_tA ?_
  | with_reducible refine w_tO ?_
  | with_reducible refine w_tY ?_
  | with_reducible refine wQ_t rfl ?_
  | with_reducible refine wQ_f rfl ?_
  | with_reducible refine wB_t rfl ?_
  | with_reducible refine wB_f rfl ?_
  | with_reducible refine w_tup ?_
  | with_reducible refine w_lst ?_
  | ((with_reducible refine z_wz ?_ ?_); (exact rfl))
  | with_reducible refine w_and ?_
  | with_reducible refine w_or ?_
  | with_reducible refine w_not ?_
  | with_reducible refine w_if ?_
  | with_reducible refine w_chain ?_
  | with_reducible refine ws_un ?_
  | with_reducible refine ws_par ?_
  | with_reducible refine ws_par3 ?_
  | with_reducible refine ws_sub ?_
  | with_reducible refine ws_raise ?_
  | with_reducible refine ws_for ?_
  | with_reducible refine w_lc ?_
  | with_reducible refine w_lc2 ?_
  | with_reducible refine w_isq ?_
  | with_reducible refine w_irng1 ?_
  | with_reducible refine w_irng2 ?_
  | with_reducible refine w_ienm ?_
  | with_reducible refine w_ienmK ?_
  | with_reducible refine w_izp ?_
  | with_reducible refine w_sl ?_
  | with_reducible refine w_oN ?_
  | with_reducible refine w_oS ?_
  | with_reducible refine w_m ?_
  | ((with_reducible refine w_lam ?_); try simp only [List.replicate_succ, List.replicate_zero, Nat.reduceSub])
  | ((with_reducible refine sj_nx ?_); try simp only [List.set_cons_zero, List.set_cons_succ])
  | with_reducible refine sj_rt ?_
  | with_reducible refine sj_xc ?_
  | with_reducible refine sj_bk ?_
  | with_reducible refine sj_ct ?_
  | with_reducible refine ws_try ?_
  | with_reducible refine tr_nx ?_
  | with_reducible refine tr_rt ?_
  | with_reducible refine tr_xc ?_
  | with_reducible refine w_dict ?_
  | with_reducible refine w_pcons ?_
  | with_reducible refine w_pnil ?_
  | with_reducible refine rh_nx ?_
  | with_reducible refine rh_rt ?_
  | fail "z"))
local macro_rules | `(tactic| walk_at "z") => `(tactic| ((repeat' (walk_at "z1")); try dsimp only))
local macro_rules | `(tactic| walk_at "zF") => `(tactic| (refine wQ_f (by simp only [decide_eq_false_iff_not, decide_eq_true_eq, List.length_map, List.length_append, Int.not_lt, Bool.not_eq_eq_eq_not, Bool.not_true, Bool.not_false]; omega) ?_; walk_at "z"))
local macro_rules | `(tactic| walk_at "zT") => `(tactic| (refine wQ_t (by simp only [decide_eq_false_iff_not, decide_eq_true_eq, List.length_map, List.length_append, Int.not_lt, Bool.not_eq_eq_eq_not, Bool.not_true, Bool.not_false]; omega) ?_; walk_at "z"))
local macro_rules | `(tactic| walk_at "z0") => `(tactic| simp only [List.map_cons, List.map_nil, List.replicate_succ, List.replicate_zero, List.cons_append, List.nil_append, Nat.reduceSub, Nat.sub_self])
local macro_rules | `(tactic| walk_at "zc") => `(tactic| (walk_at "z0"; walk_at "z"))
def inA (t u : Thg) : Bool := decide (t.1.2 < u.1.1)
def outA (t u : Thg) : Bool := match t.2 with
  | none => false
  | some c => match u.2 with
    | none => true
    | some d => decide (c.2 < d.1)
def trn (t u : Thg) : Bool := inA t u && outA u t
def erl (t : Thg) : Bool := match t.2 with
  | none => false
  | some c => decide (c.2 < t.1.1)
def dI (i : Nat) : D := .int (0 + (i : Nat))
def dNP (p : Nat × Nat) : D := .tup [.int (0 + (p.1 : Nat)), .int (0 + (p.2 : Nat))]
def prsF (ts : List Thg) (t : Thg) (i : Nat) : List (Nat × Nat) := (ts.zipIdx.filter fun q => trn t q.1).map fun q => (i, q.2)
def prs (ts : List Thg) : List (Nat × Nat) := ts.zipIdx.flatMap fun p => prsF ts p.1 p.2
def erls (ts : List Thg) : List Nat := (ts.zipIdx.filter fun q => erl q.1).map fun q => q.2
def mx (l : List Int) : Int := l.foldl (fun a b => if a < b then b else a) 0
def stL (ts : List Thg) (L : List Int) : List Int := (List.range ts.length).map fun o => 1 + mx (((prs ts).filter fun p => p.2 == o).map fun p => L.getD p.1 0)
def lvl (ts : List Thg) : Nat → List Int
  | 0 => ts.map fun _ => 1
  | r + 1 => stL ts (lvl ts r)
theorem lvl_len (ts : List Thg) : ∀ r, (lvl ts r).length = ts.length
  | 0 => by simp [lvl]
  | r + 1 => by simp [lvl, stL]
theorem prsF_len (ts : List Thg) (t : Thg) (i : Nat) : (prsF ts t i).length ≤ ts.length := by
  unfold prsF
  rw [List.length_map]
  have := List.length_filter_le (fun q => trn t q.1) ts.zipIdx
  rw [List.length_zipIdx] at this
  exact this
theorem flat_len {α β : Type} {f : α → List β} {m : Nat} (l : List α) (h : ∀ a ∈ l, (f a).length ≤ m) : (l.flatMap f).length ≤ l.length * m := by
  induction l with
  | nil => simp
  | cons a l ih =>
    have h1 := h a (by simp)
    have h2 := ih fun b hb => h b (by simp [hb])
    simp only [List.flatMap_cons, List.length_append, List.length_cons, Nat.succ_mul]
    omega
theorem prsK_len (ts : List Thg) (l : List (Thg × Nat)) : (l.flatMap fun p => prsF ts p.1 p.2).length ≤ l.length * ts.length := flat_len l fun p _ => prsF_len ts p.1 p.2
theorem prs_len (ts : List Thg) : (prs ts).length ≤ ts.length * ts.length := by
  have := prsK_len ts ts.zipIdx
  rw [List.length_zipIdx] at this
  exact this
theorem zip_get {ts : List Thg} {i : Nat} {t : Thg} (h : ts[i]? = some t) : ts.zipIdx[i]? = some (t, i) := by
  rw [List.getElem?_zipIdx, h]; simp
section
variable {k : Nat} {S : Sto}
theorem s_is_in_ahead {t u : Thg} : wp (callZ bs (k + 1) i_is_in_ahead [dThing t, dThing u]) S (fun d S' => d = .bl (inA t u) ∧ S' = S) noX := by
  refine call_go (b := b_is_in_ahead) rfl rfl rfl ?_
  unfold b_is_in_ahead
  walk_at "zc"
  exact ⟨rfl, rfl⟩
theorem s_is_out_ahead {t u : Thg} : wp (callZ bs (k + 1) i_is_out_ahead [dThing t, dThing u]) S (fun d S' => d = .bl (outA t u) ∧ S' = S) noX := by
  obtain ⟨p, o⟩ := t
  obtain ⟨q, r⟩ := u
  refine call_go (b := b_is_out_ahead) rfl rfl rfl ?_
  unfold b_is_out_ahead
  cases o with
  | none =>
    walk_at "zc"
    exact ⟨rfl, rfl⟩
  | some c =>
    cases r with
    | none =>
      walk_at "zc"
      exact ⟨rfl, rfl⟩
    | some d =>
      walk_at "zc"
      exact ⟨rfl, rfl⟩
theorem s_is_turned_with {t u : Thg} : wp (callZ bs (k + 2) i_is_turned_with [dThing t, dThing u]) S (fun d S' => d = .bl (trn t u) ∧ S' = S) noX := by
  refine call_go (b := b_is_turned_with) rfl rfl rfl ?_
  unfold b_is_turned_with
  walk_at "zc"
  refine s_is_in_ahead.use ?_
  rintro d S1 ⟨rfl, rfl⟩
  refine wB_c (fun h => ?_) (fun h => ?_)
  · walk_at "z"
    refine s_is_out_ahead.use ?_
    rintro d S1 ⟨rfl, rfl⟩
    walk_at "z"
    exact ⟨by unfold trn; rw [h, Bool.true_and], rfl⟩
  · walk_at "z"
    exact ⟨by unfold trn; rw [h, Bool.false_and], rfl⟩
theorem s_is_early {t : Thg} : wp (callZ bs (k + 1) i_is_early [dThing t]) S (fun d S' => d = .bl (erl t) ∧ S' = S) noX := by
  obtain ⟨p, o⟩ := t
  refine call_go (b := b_is_early) rfl rfl rfl ?_
  unfold b_is_early
  cases o with
  | none =>
    walk_at "zc"
    exact ⟨rfl, rfl⟩
  | some c =>
    walk_at "zc"
    exact ⟨rfl, rfl⟩
theorem s_need_number_of {h : Hst} {n : Int} (h0 : 0 ≤ n) (h1 : n.toNat < h.1.length) : wp (callZ bs (k + 3) i_need_number_of [dHist h, .int n]) S (fun d S' => d = .non ∧ S' = S) noX := by
  refine call_go (b := b_need_number_of) rfl rfl rfl ?_
  unfold b_need_number_of
  walk_at "zc"
  rw [List.length_map]
  refine s_is_between.use ?_
  rintro d S1 ⟨rfl, rfl⟩
  rw [decide_eq_true (show (0 : Int) ≤ n from h0), decide_eq_true (show n ≤ (h.1.length : Int) - 1 by omega)]
  walk_at "z"
  exact ⟨rfl, rfl⟩
theorem at_thg {ts : List Thg} {i : Nat} {t : Thg} (h : ts[i]? = some t) : atD (ts.map dThing) (0 + (i : Int)) = some (dThing t) := by
  rw [atD_int _ (by omega), show (0 + (i : Int)).toNat = i by omega, List.getElem?_map, h]; rfl
theorem s_need_two {h : Hst} (H : OkH h) {i j : Nat} {t u : Thg} (hi : h.1[i]? = some t) (hj : h.1[j]? = some u) : wp (callZ bs (k + 6) i_need_two [dHist h, .int (0 + (i : Int)), .int (0 + (j : Int))]) S (fun d S' => d = .tup [dThing t, dThing u] ∧ Gr S S') noX := by
  have li := (List.getElem?_eq_some_iff.mp hi).1
  have lj := (List.getElem?_eq_some_iff.mp hj).1
  refine call_go (b := b_need_two) rfl rfl rfl ?_
  unfold b_need_two
  walk_at "zc"
  refine (s_need_history H).use ?_
  rintro d S1 ⟨rfl, g1⟩
  walk_at "z"
  refine (s_need_number_of (by omega) (by omega)).use ?_
  rintro d S2 ⟨rfl, rfl⟩
  walk_at "z"
  refine (s_need_number_of (by omega) (by omega)).use ?_
  rintro d S2 ⟨rfl, rfl⟩
  walk_at "z"
  refine z_ixT (at_thg hi) ?_
  walk_at "z"
  refine z_ixT (at_thg hj) ?_
  walk_at "z"
  exact ⟨by trivial, g1⟩
theorem s_is_in {h : Hst} (H : OkH h) {i j : Nat} {t u : Thg} (hi : h.1[i]? = some t) (hj : h.1[j]? = some u) : wp (callZ bs (k + 7) i_is_in [dHist h, .int (0 + (i : Int)), .int (0 + (j : Int))]) S (fun d S' => d = .bl (inA t u) ∧ Gr S S') noX := by
  refine call_go (b := b_is_in) rfl rfl rfl ?_
  unfold b_is_in
  walk_at "zc"
  refine (s_need_two H hi hj).use ?_
  rintro d S1 ⟨rfl, g1⟩
  walk_at "z"
  refine s_is_in_ahead.use ?_
  rintro d S2 ⟨rfl, rfl⟩
  exact ⟨rfl, g1⟩
theorem s_is_out {h : Hst} (H : OkH h) {i j : Nat} {t u : Thg} (hi : h.1[i]? = some t) (hj : h.1[j]? = some u) : wp (callZ bs (k + 7) i_is_out [dHist h, .int (0 + (i : Int)), .int (0 + (j : Int))]) S (fun d S' => d = .bl (outA t u) ∧ Gr S S') noX := by
  refine call_go (b := b_is_out) rfl rfl rfl ?_
  unfold b_is_out
  walk_at "zc"
  refine (s_need_two H hi hj).use ?_
  rintro d S1 ⟨rfl, g1⟩
  walk_at "z"
  refine s_is_out_ahead.use ?_
  rintro d S2 ⟨rfl, rfl⟩
  exact ⟨rfl, g1⟩
theorem s_is_turned {h : Hst} (H : OkH h) {i j : Nat} {t u : Thg} (hi : h.1[i]? = some t) (hj : h.1[j]? = some u) : wp (callZ bs (k + 7) i_is_turned [dHist h, .int (0 + (i : Int)), .int (0 + (j : Int))]) S (fun d S' => d = .bl (trn t u) ∧ Gr S S') noX := by
  refine call_go (b := b_is_turned) rfl rfl rfl ?_
  unfold b_is_turned
  walk_at "zc"
  refine (s_need_two H hi hj).use ?_
  rintro d S1 ⟨rfl, g1⟩
  walk_at "z"
  refine s_is_turned_with.use ?_
  rintro d S2 ⟨rfl, rfl⟩
  exact ⟨rfl, g1⟩
theorem s_pairs_in {ts : List Thg} (hl : ts.length ≤ 100) : wp (callZ bs (k + 3) i_pairs_in [.tup (ts.map dThing)]) S (fun d S' => ∃ n, d = .loc n ∧ S'.get n = some (.lst ((prs ts).map dNP)) ∧ Gr S S' ∧ S.n ≤ n) noX := by
  refine call_go (b := b_pairs_in) rfl rfl rfl ?_
  unfold b_pairs_in
  walk_at "zc"
  refine for_E (as := ts) (e := dThing) (fun i σ S1 => ∃ o2 o3 : Option D, σ = [some (.tup (ts.map dThing)), some (.loc S.n), o2, o3, none, none] ∧ Gr S S1 ∧ S1.get S.n = some (.lst (((ts.zipIdx.take i).flatMap fun p => prsF ts p.1 p.2).map dNP))) ⟨_, _, rfl, (Gx.refl _ _).push _, Sto.get_push _ _⟩ ?_ ?_
  · rintro i t σ S1 ht ⟨o2, o3, rfl, gr, g⟩
    have htk : ts.zipIdx.take (i + 1) = ts.zipIdx.take i ++ [(t, i)] := by rw [List.take_succ, zip_get ht]; rfl
    have hk := prsK_len ts (ts.zipIdx.take i)
    have hk2 : (ts.zipIdx.take i).length ≤ ts.length := by rw [List.length_take, List.length_zipIdx]; omega
    have hk3 := Nat.mul_le_mul hk2 (Nat.le_refl ts.length)
    have hk4 := Nat.mul_le_mul hl hl
    have hk5 := prsF_len ts t i
    walk_at "z"
    refine w_chkL g ?_
    walk_at "z"
    rw [enum_ty]
    refine lc_F (as := ts.zipIdx) (fun q => trn t q.1) (fun q => dNP (i, q.2)) (szl (by rw [List.length_zipIdx]; omega)) (fun q hq S2 gr2 => ?_) (fun S2 gr2 hn2 g2 => ?_)
    · walk_at "z"
      refine s_is_turned_with.use ?_
      rintro d S3 ⟨rfl, rfl⟩
      refine ⟨_, rfl, rfl, Gx.refl _ _, fun _ => ?_⟩
      walk_at "z"
      exact ⟨rfl, Gx.refl _ _⟩
    · walk_at "z"
      have e : ((ts.zipIdx.filter fun q => trn t q.1).map fun q => dNP (i, q.2)) = (prsF ts t i).map dNP := by unfold prsF; rw [List.map_map]; rfl
      rw [e] at g2
      have g3 := gr2.get g
      refine z_ext g3 g2 (szl (by rw [List.length_map, List.length_map]; omega)) ?_
      walk_at "z"
      refine ⟨_, _, rfl, (gr.trans gr2).set (.inr (Nat.le_refl _)) (Sto.lt_of g3) _, ?_⟩
      rw [Sto.get_set g3, htk, List.flatMap_append, List.map_append]
      simp
  · rintro σ S1 ⟨o2, o3, rfl, gr, g⟩
    rw [← List.length_zipIdx (l := ts) (i := 0), List.take_length] at g
    walk_at "z"
    exact ⟨_, rfl, g, gr, Nat.le_refl _⟩
theorem s_turned_pairs {h : Hst} (H : OkH h) : wp (callZ bs (k + 6) i_turned_pairs [dHist h]) S (fun d S' => d = .tup ((prs h.1).map dNP) ∧ Gr S S') noX := by
  have h1 := H.n
  refine call_go (b := b_turned_pairs) rfl rfl rfl ?_
  unfold b_turned_pairs
  walk_at "zc"
  refine (s_need_history H).use ?_
  rintro d S1 ⟨rfl, g1⟩
  walk_at "z"
  refine (s_pairs_in (by omega)).use ?_
  rintro d S2 ⟨n, rfl, g, g2, _⟩
  walk_at "z"
  refine z_tupL g ?_
  walk_at "z"
  exact ⟨by trivial, g1.trans g2⟩
theorem s_early_in {ts : List Thg} (hl : ts.length ≤ 100) : wp (callZ bs (k + 2) i_early_in [.tup (ts.map dThing)]) S (fun d S' => ∃ n, d = .loc n ∧ S'.get n = some (.lst ((erls ts).map dI)) ∧ Gr S S' ∧ S.n ≤ n) noX := by
  refine call_go (b := b_early_in) rfl rfl rfl ?_
  unfold b_early_in
  walk_at "zc"
  rw [enum_ty]
  refine lc_F (as := ts.zipIdx) (fun q => erl q.1) (fun q => dI q.2) (szl (by rw [List.length_zipIdx]; omega)) (fun q hq S2 gr2 => ?_) (fun S2 gr2 hn2 g2 => ?_)
  · walk_at "z"
    refine s_is_early.use ?_
    rintro d S3 ⟨rfl, rfl⟩
    refine ⟨_, rfl, rfl, Gx.refl _ _, fun _ => ?_⟩
    walk_at "z"
    exact ⟨rfl, Gx.refl _ _⟩
  · walk_at "z"
    refine ⟨_, rfl, ?_, gr2, Nat.le_refl _⟩
    rw [g2]; unfold erls; rw [List.map_map]; rfl
theorem s_early {h : Hst} (H : OkH h) : wp (callZ bs (k + 6) i_early [dHist h]) S (fun d S' => d = .tup ((erls h.1).map dI) ∧ Gr S S') noX := by
  have h1 := H.n
  refine call_go (b := b_early) rfl rfl rfl ?_
  unfold b_early
  walk_at "zc"
  refine (s_need_history H).use ?_
  rintro d S1 ⟨rfl, g1⟩
  walk_at "z"
  refine (s_early_in (by omega)).use ?_
  rintro d S2 ⟨n, rfl, g, g2, _⟩
  walk_at "z"
  refine z_tupL g ?_
  walk_at "z"
  exact ⟨by trivial, g1.trans g2⟩
theorem prs_lt {ts : List Thg} {p : Nat × Nat} (h : p ∈ prs ts) : ∃ t u, ts[p.1]? = some t ∧ ts[p.2]? = some u ∧ trn t u = true := by
  unfold prs at h
  obtain ⟨q, hq, hp⟩ := List.mem_flatMap.mp h
  unfold prsF at hp
  obtain ⟨r, hr, rfl⟩ := List.mem_map.mp hp
  obtain ⟨hr1, hr2⟩ := List.mem_filter.mp hr
  obtain ⟨t, i⟩ := q
  obtain ⟨u, j⟩ := r
  have a1 := List.mk_mem_zipIdx_iff_getElem?.mp hq
  have a2 := List.mk_mem_zipIdx_iff_getElem?.mp hr1
  exact ⟨t, u, a1, a2, hr2⟩
theorem prs_mem {ts : List Thg} {i j : Nat} {t u : Thg} (hi : ts[i]? = some t) (hj : ts[j]? = some u) (h : trn t u = true) : (i, j) ∈ prs ts := by
  unfold prs
  refine List.mem_flatMap.mpr ⟨(t, i), List.mk_mem_zipIdx_iff_getElem?.mpr hi, ?_⟩
  unfold prsF
  exact List.mem_map.mpr ⟨(u, j), List.mem_filter.mpr ⟨List.mk_mem_zipIdx_iff_getElem?.mpr hj, h⟩, rfl⟩
theorem s_levels_in {ts : List Thg} (hl : ts.length ≤ 100) : wp (callZ bs (k + 4) i_levels_in [.tup (ts.map dThing)]) S (fun d S' => ∃ n, d = .loc n ∧ S'.get n = some (.lst ((lvl ts ts.length).map .int)) ∧ Gr S S') noX := by
  have hpl := prs_len ts
  have hk4 := Nat.mul_le_mul hl hl
  refine call_go (b := b_levels_in) rfl rfl rfl ?_
  unfold b_levels_in
  walk_at "zc"
  refine lc_F1 (as := ts) (e := dThing) (fun _ => .int 1) (szl (by omega)) (fun q hq S2 gr2 => ?_) (fun S2 gr2 hn2 g2 => ?_)
  · walk_at "z"
    exact ⟨rfl, Gx.refl _ _⟩
  walk_at "z"
  refine (s_pairs_in hl).use ?_
  rintro d S3 ⟨np, rfl, gp, g3, _⟩
  walk_at "z"
  rw [List.length_map]
  have g0 : S3.get S.n = some (.lst ((lvl ts 0).map .int)) := by
    rw [g3.get g2]; unfold lvl; rw [List.map_map]; rfl
  refine for_rng (fun i σ S4 => ∃ (o1 : Option D) (n : Nat), σ = [some (.tup (ts.map dThing)), o1, some (.loc n), some (.loc np), none, none, none, none] ∧ Gr S S4 ∧ S4.get n = some (.lst ((lvl ts i).map .int)) ∧ S4.get np = some (.lst ((prs ts).map dNP))) ⟨_, _, rfl, gr2.trans g3, g0, gp⟩ ?_ ?_
  · rintro i σ S4 hi ⟨o1, n, rfl, gr4, g4, gp4⟩
    walk_at "z"
    rw [List.length_map]
    refine lc_R1 (fun o => .int (1 + mx (((prs ts).filter fun p => p.2 == o).map fun p => (lvl ts i).getD p.1 0))) (szl (by omega)) (fun o ho S5 gr5 => ?_) (fun S5 gr5 hn5 g5 => ?_)
    · walk_at "z"
      refine z_itL (Sto.get_push_lt (Sto.lt_of (gr5.get gp4)) |>.trans (gr5.get gp4)) ?_
      refine lc_L (as := prs ts) (e := dNP) (Sto.get_push_lt (Sto.lt_of (gr5.get gp4)) |>.trans (gr5.get gp4)) (fun p => p.2 == o) (fun p => .int ((lvl ts i).getD p.1 0)) (szl (by omega)) (fun p hp S6 gr6 => ?_) (fun S6 gr6 hn6 g6 => ?_)
      · walk_at "z"
        refine ⟨?_, Gx.refl _ _, fun _ => ?_⟩
        · show ((0 + (p.2 : Int)) == (0 + (o : Int))) = (p.2 == o)
          rw [Bool.eq_iff_iff, beq_iff_eq, beq_iff_eq]; omega
        · walk_at "z"
          obtain ⟨t, u, h1, h2, h3⟩ := prs_lt hp
          have l1 := (List.getElem?_eq_some_iff.mp h1).1
          have hget : atD ((lvl ts i).map D.int) (0 + (p.1 : Int)) = some (.int ((lvl ts i).getD p.1 0)) := by
            rw [atD_int _ (by omega), show (0 + (p.1 : Int)).toNat = p.1 by omega, List.getElem?_map, List.getD_eq_getElem?_getD, List.getElem?_eq_getElem (by rw [lvl_len]; exact l1)]; rfl
          refine z_ixL (Gr.get ((gr5.push _).trans gr6) g4) hget ?_
          exact ⟨rfl, Gx.refl _ _⟩
      · walk_at "z"
        have g7 : S6.get S5.n = some (.lst [.int 0]) := gr6.get (Sto.get_push _ _)
        have hfl := List.length_filter_le (fun p : Nat × Nat => p.2 == o) (prs ts)
        refine z_addL g7 g6 (szl (by simp only [List.length_cons, List.length_nil, List.length_map]; omega)) ?_
        walk_at "z"
        refine z_maxI (i := 0) (is := ((prs ts).filter fun p => p.2 == o).map fun p => (lvl ts i).getD p.1 0) (by rw [Sto.get_push, List.map_cons, List.map_map]; rfl) ?_
        walk_at "z"
        exact ⟨rfl, (((Gx.refl _ _).push _).trans gr6).push _⟩
    · walk_at "z"
      refine ⟨_, _, rfl, gr4.trans gr5, ?_, gr5.get gp4⟩
      rw [g5]
      simp only [lvl, stL, List.map_map]
      rfl
  · rintro σ S4 ⟨o1, n, rfl, gr4, g4, gp4⟩
    walk_at "z"
    exact ⟨_, rfl, g4, gr4⟩
theorem s_longest_to {h : Hst} (H : OkH h) : wp (callZ bs (k + 6) i_longest_to [dHist h]) S (fun d S' => d = .tup ((lvl h.1 h.1.length).map .int) ∧ Gr S S') noX := by
  have h1 := H.n
  refine call_go (b := b_longest_to) rfl rfl rfl ?_
  unfold b_longest_to
  walk_at "zc"
  refine (s_need_history H).use ?_
  rintro d S1 ⟨rfl, g1⟩
  walk_at "z"
  refine (s_levels_in (by omega)).use ?_
  rintro d S2 ⟨n, rfl, g, g2⟩
  walk_at "z"
  refine z_tupL g ?_
  walk_at "z"
  exact ⟨by trivial, g1.trans g2⟩
end
end L2.Z.Lw

set_option Elab.async false
set_option linter.all false
set_option maxRecDepth 100000
set_option maxHeartbeats 4000000
/-! M03: chains of things out of turn: the longest that ends with each. -/
namespace L2.Z.Lw
open PySem PySem.Spec PyProof.Rows
def Rtn (ts : List Thg) (o j : Nat) : Prop := ∃ t u, ts[o]? = some t ∧ ts[j]? = some u ∧ trn t u = true
def Pw (ts : List Thg) : Nat → Nat → Nat → Prop
  | 0, o, j => o = j
  | s + 1, o, j => ∃ x, Rtn ts o x ∧ Pw ts s x j
theorem pw_snoc {ts : List Thg} : ∀ {s o j : Nat}, Pw ts (s + 1) o j ↔ ∃ x, Pw ts s o x ∧ Rtn ts x j
  | 0, o, j => by
    simp only [Pw]
    constructor
    · rintro ⟨x, h, rfl⟩; exact ⟨o, rfl, h⟩
    · rintro ⟨x, rfl, h⟩; exact ⟨j, h, rfl⟩
  | s + 1, o, j => by
    constructor
    · rintro ⟨x, h, p⟩
      obtain ⟨y, p1, p2⟩ := pw_snoc.mp p
      exact ⟨y, ⟨x, h, p1⟩, p2⟩
    · rintro ⟨y, ⟨x, h, p1⟩, p2⟩
      exact ⟨x, h, pw_snoc.mpr ⟨y, p1, p2⟩⟩
def hasP (ts : List Thg) (s j : Nat) : Prop := ∃ o, Pw ts s o j
theorem hasP_zero {ts : List Thg} {j : Nat} : hasP ts 0 j := ⟨j, rfl⟩
theorem hasP_succ {ts : List Thg} {s j : Nat} : hasP ts (s + 1) j ↔ ∃ o, Rtn ts o j ∧ hasP ts s o := by
  constructor
  · rintro ⟨o, p⟩
    obtain ⟨x, p1, p2⟩ := pw_snoc.mp p
    exact ⟨x, p2, o, p1⟩
  · rintro ⟨x, p2, o, p1⟩
    exact ⟨o, pw_snoc.mpr ⟨x, p1, p2⟩⟩
theorem mx_ge (s : Int) : ∀ (l : List Int) (a : Int), s ≤ l.foldl (fun a b => if a < b then b else a) a ↔ s ≤ a ∨ ∃ x ∈ l, s ≤ x
  | [], a => by simp
  | b :: l, a => by
    rw [List.foldl_cons, mx_ge s l]
    constructor
    · rintro (h | ⟨x, h1, h2⟩)
      · by_cases q : a < b
        · rw [if_pos q] at h; exact .inr ⟨b, by simp, h⟩
        · rw [if_neg q] at h; exact .inl h
      · exact .inr ⟨x, by simp [h1], h2⟩
    · rintro (h | ⟨x, h1, h2⟩)
      · left
        by_cases q : a < b
        · rw [if_pos q]; omega
        · rw [if_neg q]; exact h
      · rcases List.mem_cons.mp h1 with rfl | h1
        · left
          by_cases q : a < x
          · rw [if_pos q]; exact h2
          · rw [if_neg q]; omega
        · exact .inr ⟨x, h1, h2⟩
theorem prs_iff {ts : List Thg} {i j : Nat} : (i, j) ∈ prs ts ↔ Rtn ts i j := by
  constructor
  · intro h; exact prs_lt h
  · rintro ⟨t, u, h1, h2, h3⟩; exact prs_mem h1 h2 h3
theorem lvl_ge {ts : List Thg} : ∀ (r : Nat) {j s : Nat}, j < ts.length → (((s : Int) + 1 ≤ (lvl ts r).getD j 0) ↔ (s ≤ r ∧ hasP ts s j))
  | 0, j, s, hj => by
    have e : (lvl ts 0).getD j 0 = 1 := by
      unfold lvl
      rw [List.getD_eq_getElem?_getD, List.getElem?_map, List.getElem?_eq_getElem hj]; rfl
    rw [e]
    constructor
    · intro h
      have : s = 0 := by omega
      subst this
      exact ⟨Nat.le_refl _, hasP_zero⟩
    · rintro ⟨h, _⟩; omega
  | r + 1, j, s, hj => by
    have e : (lvl ts (r + 1)).getD j 0 = 1 + mx (((prs ts).filter fun p => p.2 == j).map fun p => (lvl ts r).getD p.1 0) := by
      simp only [lvl, stL]
      rw [List.getD_eq_getElem?_getD, List.getElem?_map, List.getElem?_range hj]; rfl
    rw [e]
    cases s with
    | zero =>
      have : (0 : Int) ≤ mx (((prs ts).filter fun p => p.2 == j).map fun p => (lvl ts r).getD p.1 0) := (mx_ge 0 _ 0).mpr (.inl (Int.le_refl _))
      constructor
      · intro _; exact ⟨Nat.zero_le _, hasP_zero⟩
      · intro _; omega
    | succ s =>
      have k1 : ((((s + 1 : Nat) : Int) + 1 ≤ 1 + mx (((prs ts).filter fun p => p.2 == j).map fun p => (lvl ts r).getD p.1 0)) ↔ ((s : Int) + 1 ≤ mx (((prs ts).filter fun p => p.2 == j).map fun p => (lvl ts r).getD p.1 0))) := by omega
      rw [k1]
      unfold mx
      rw [mx_ge, hasP_succ]
      constructor
      · rintro (h | ⟨x, hx, h⟩)
        · omega
        · obtain ⟨p, hp, rfl⟩ := List.mem_map.mp hx
          obtain ⟨hp1, hp2⟩ := List.mem_filter.mp hp
          simp only [beq_iff_eq] at hp2
          subst hp2
          have rt : Rtn ts p.1 p.2 := prs_iff.mp hp1
          have rt' := rt
          obtain ⟨t, u, h1, _, _⟩ := rt'
          have := (lvl_ge r (List.getElem?_eq_some_iff.mp h1).1).mp h
          exact ⟨by omega, p.1, rt, this.2⟩
      · rintro ⟨h, o, rt, hp⟩
        refine .inr ⟨(lvl ts r).getD o 0, List.mem_map.mpr ⟨(o, j), List.mem_filter.mpr ⟨prs_iff.mpr rt, by simp⟩, rfl⟩, ?_⟩
        obtain ⟨t, u, h1, _, _⟩ := rt
        exact (lvl_ge r (List.getElem?_eq_some_iff.mp h1).1).mpr ⟨by omega, hp⟩
theorem trn_lt {t u : Thg} (hu : okTh u = true) (h : trn t u = true) : t.1.2 < u.1.2 := by
  unfold trn inA at h
  unfold okTh okC at hu
  simp only [Bool.and_eq_true, decide_eq_true_eq] at h hu
  omega
theorem count_lt {α : Type} {p q : α → Bool} : ∀ (l : List α), (∀ x, p x = true → q x = true) → (∃ x ∈ l, q x = true ∧ p x = false) → l.countP p < l.countP q
  | [], _, h => by obtain ⟨x, hx, _⟩ := h; cases hx
  | a :: l, hpq, h => by
    have hle : l.countP p ≤ l.countP q := List.countP_mono_left fun x _ => hpq x
    simp only [List.countP_cons]
    by_cases qa : q a = true ∧ p a = false
    · rw [qa.1, qa.2]; simp; omega
    · obtain ⟨x, hx, hq⟩ := h
      have hx' : x ∈ l := by
        rcases List.mem_cons.mp hx with rfl | hx
        · exact absurd hq qa
        · exact hx
      have := count_lt l hpq ⟨x, hx', hq⟩
      have h2 : (if p a = true then 1 else 0) ≤ (if q a = true then 1 else 0) := by
        by_cases z : p a = true
        · rw [if_pos z, if_pos (hpq a z)]; exact Nat.le_refl _
        · rw [if_neg z]; exact Nat.zero_le _
      omega
def rk (ts : List Thg) (e : Int) : Nat := ts.countP fun t => decide (t.1.2 < e)
theorem rk_lt {ts : List Thg} {t : Thg} {e : Int} (ht : t ∈ ts) (h : t.1.2 < e) : rk ts t.1.2 < rk ts e := by
  unfold rk
  refine count_lt ts (fun x hx => ?_) ⟨t, ht, by simpa using h, by simp⟩
  simp only [decide_eq_true_eq] at hx ⊢
  omega
theorem rk_len {ts : List Thg} {t : Thg} (ht : t ∈ ts) : rk ts t.1.2 < ts.length := by
  have := count_lt (p := fun x : Thg => decide (x.1.2 < t.1.2)) (q := fun _ => true) ts (fun _ _ => rfl) ⟨t, ht, rfl, by simp⟩
  simpa [rk] using this
theorem pw_rk {ts : List Thg} (ok : ∀ t ∈ ts, okTh t = true) : ∀ {s o j : Nat} {t u : Thg}, ts[o]? = some t → ts[j]? = some u → Pw ts s o j → rk ts t.1.2 + s ≤ rk ts u.1.2
  | 0, o, j, t, u, h1, h2, h => by
    simp only [Pw] at h
    subst h
    rw [h1] at h2; cases h2; omega
  | s + 1, o, j, t, u, h1, h2, h => by
    obtain ⟨x, ⟨t', y, e1, e2, e3⟩, p⟩ := h
    rw [h1] at e1; cases e1
    have := pw_rk ok e2 h2 p
    have q := rk_lt (List.mem_of_getElem? h1) (trn_lt (ok y (List.mem_of_getElem? e2)) e3)
    omega
theorem pw_lt {ts : List Thg} : ∀ {s o j : Nat}, j < ts.length → Pw ts s o j → o < ts.length
  | 0, o, j, hj, h => by simp only [Pw] at h; omega
  | s + 1, o, j, hj, h => by
    obtain ⟨x, ⟨t', y, e1, e2, e3⟩, p⟩ := h
    exact (List.getElem?_eq_some_iff.mp e1).1
theorem hasP_lt {ts : List Thg} (ok : ∀ t ∈ ts, okTh t = true) {s j : Nat} (hj : j < ts.length) (h : hasP ts s j) : s < ts.length := by
  obtain ⟨o, p⟩ := h
  have ho := pw_lt hj p
  have := pw_rk ok (List.getElem?_eq_getElem ho) (List.getElem?_eq_getElem hj) p
  have := rk_len (List.getElem_mem hj)
  omega
theorem lvl_at {ts : List Thg} (ok : ∀ t ∈ ts, okTh t = true) {s j : Nat} (hj : j < ts.length) (h : hasP ts s j) (hn : ¬ hasP ts (s + 1) j) : (lvl ts ts.length)[j]? = some ((s + 1 : Nat) : Int) := by
  have hs := hasP_lt ok hj h
  have h1 := (lvl_ge ts.length hj).mpr ⟨Nat.le_of_lt hs, h⟩
  have h2 : ¬ (((s + 1 : Nat) : Int) + 1 ≤ (lvl ts ts.length).getD j 0) := fun z => hn ((lvl_ge ts.length hj).mp z).2
  have e : (lvl ts ts.length)[j]? = some ((lvl ts ts.length).getD j 0) := by
    rw [List.getD_eq_getElem?_getD, List.getElem?_eq_getElem (by rw [lvl_len]; exact hj)]; rfl
  rw [e]
  congr 1
  omega
theorem trn_trans {a b c : Thg} (hb : okTh b = true) (h1 : trn a b = true) (h2 : trn b c = true) : trn a c = true := by
  obtain ⟨⟨a1, a2⟩, ao⟩ := a
  obtain ⟨⟨b1, b2⟩, bo⟩ := b
  obtain ⟨⟨c1, c2⟩, co⟩ := c
  unfold trn inA outA at *
  unfold okTh okC at hb
  simp only [Bool.and_eq_true, decide_eq_true_eq] at *
  obtain ⟨⟨_, hb1⟩, hb2⟩ := hb
  obtain ⟨x1, x2⟩ := h1
  obtain ⟨y1, y2⟩ := h2
  refine ⟨by omega, ?_⟩
  cases co with
  | none => simp at y2
  | some c' =>
    cases bo with
    | none => simp at x2
    | some b' =>
      cases ao with
      | none => rfl
      | some a' =>
        simp only [okO, okC, Bool.and_eq_true, decide_eq_true_eq] at *
        omega
theorem rt_trans {ts : List Thg} (ok : ∀ t ∈ ts, okTh t = true) {i j l : Nat} (h1 : Rtn ts i j) (h2 : Rtn ts j l) : Rtn ts i l := by
  obtain ⟨t, u, e1, e2, e3⟩ := h1
  obtain ⟨u', v, f1, f2, f3⟩ := h2
  rw [e2] at f1; cases f1
  exact ⟨t, v, e1, f2, trn_trans (ok u (List.mem_of_getElem? e2)) e3 f3⟩
/-! the law's own rounds: sorted(dict([((i,), True) ..])) -/
def dC (o : Nat) : D := .tup [.int (0 + (o : Nat))]
def dCT (o : Nat) : D := .tup [dC o, .bl true]
def kv1 (o : Nat) : List Key × D := ([Sum.inl (0 + (o : Nat))], .bl true)
def ins (acc : List Nat) (o : Nat) : List Nat := if o ∈ acc then acc else acc ++ [o]
theorem pairs_1 : ∀ l : List Nat, pairsD (l.map dCT) = some (l.map kv1)
  | [] => rfl
  | o :: l => by
    rw [List.map_cons, List.map_cons]
    show (match pairD (dCT o), pairsD (l.map dCT) with
      | some k, some ks => some (k :: ks)
      | _, _ => none) = _
    rw [pairs_1 l]
    rfl
theorem putT_1 (acc : List Nat) (o : Nat) : putT (acc.map kv1) (kv1 o) = (ins acc o).map kv1 := by
  have key : ∀ x : Nat, (kv1 x).1 = (kv1 o).1 ↔ x = o := fun x => by
    simp only [kv1, List.cons.injEq, and_true, Sum.inl.injEq]
    omega
  have ha : ((acc.map kv1).any fun x => decide (x.1 = (kv1 o).1)) = decide (o ∈ acc) := by
    rw [Bool.eq_iff_iff, List.any_eq_true, decide_eq_true_eq]
    constructor
    · rintro ⟨x, hx, h⟩
      obtain ⟨y, hy, rfl⟩ := List.mem_map.mp hx
      have := (key y).mp (by simpa using h)
      subst this; exact hy
    · intro h
      exact ⟨kv1 o, List.mem_map.mpr ⟨o, h, rfl⟩, by simp⟩
  unfold putT ins
  rw [ha]
  by_cases h : o ∈ acc
  · rw [if_pos (by simpa using h), if_pos h, List.map_map]
    refine List.map_congr_left fun x _ => ?_
    show (if (kv1 x).1 = (kv1 o).1 then ((kv1 x).1, (kv1 o).2) else kv1 x) = kv1 x
    split
    · rfl
    · rfl
  · rw [if_neg (by simpa using h), if_neg h, List.map_append]; rfl
theorem fold_1 : ∀ (l acc : List Nat), (l.map kv1).foldl putT (acc.map kv1) = (l.foldl ins acc).map kv1
  | [], acc => rfl
  | o :: l, acc => by
    rw [List.map_cons, List.foldl_cons, putT_1, fold_1 l, List.foldl_cons]
theorem ins_ok : ∀ (l acc : List Nat), acc.Nodup → (l.foldl ins acc).Nodup ∧ ∀ x, x ∈ l.foldl ins acc ↔ x ∈ acc ∨ x ∈ l
  | [], acc, h => ⟨h, fun x => by simp⟩
  | o :: l, acc, h => by
    have h2 : (ins acc o).Nodup := by
      unfold ins
      split
      · exact h
      · rename_i q
        rw [List.nodup_append]
        refine ⟨h, by simp, fun a ha b hb => ?_⟩
        simp only [List.mem_singleton] at hb
        subst hb
        exact fun z => q (z ▸ ha)
    obtain ⟨i1, i2⟩ := ins_ok l (ins acc o) h2
    refine ⟨i1, fun x => ?_⟩
    rw [List.foldl_cons, i2 x]
    have : x ∈ ins acc o ↔ x ∈ acc ∨ x = o := by
      unfold ins
      split
      · rename_i q
        constructor
        · exact .inl
        · rintro (z | rfl)
          · exact z
          · exact q
      · simp
    rw [this, List.mem_cons, or_assoc]
def dd (l : List Nat) : List Nat := l.foldl ins []
theorem keys_1 (l : List Nat) : keysT ((l.map kv1).foldl putT []) = (dd l).map dC := by
  have := fold_1 l []
  rw [List.map_nil] at this
  rw [this]
  unfold keysT dd
  rw [List.map_map]
  rfl
def le1 (a b : Nat) : Bool := leD (dC a) (dC b)
theorem srt_1 (l : List Nat) : srt (l.map dC) = some ((l.mergeSort le1).map dC) := by
  cases l with
  | nil => simp [srt, intsOf]
  | cons p ps =>
    have e1 : intsOf ((p :: ps).map dC) = none := rfl
    have e2 : cmpAll ((p :: ps).map dC) = true := by
      unfold cmpAll
      rw [List.all_eq_true]
      intro x hx
      obtain ⟨a, _, rfl⟩ := List.mem_map.mp hx
      rw [Bool.and_eq_true]
      refine ⟨rfl, ?_⟩
      rw [List.all_eq_true]
      intro y hy
      obtain ⟨b, _, rfl⟩ := List.mem_map.mp hy
      rfl
    unfold srt
    rw [e1, e2]
    simp only
    rw [List.map_mergeSort (r := le1) (s := leD) (f := dC) fun a _ b _ => rfl]
def nxC (l : List Nat) : List Nat := (dd l).mergeSort le1
theorem nxC_ok (l : List Nat) : (nxC l).Nodup ∧ ∀ x, x ∈ nxC l ↔ x ∈ l := by
  obtain ⟨h1, h2⟩ := ins_ok l [] List.nodup_nil
  have pm : (nxC l).Perm (dd l) := List.mergeSort_perm _ _
  refine ⟨pm.nodup_iff.mpr h1, fun x => ?_⟩
  rw [pm.mem_iff]
  unfold dd
  rw [h2 x]; simp
theorem nodup_len {α : Type} [BEq α] [LawfulBEq α] : ∀ {l r : List α}, l.Nodup → (∀ x ∈ l, x ∈ r) → l.length ≤ r.length
  | [], r, _, _ => by simp
  | a :: l, r, hn, hs => by
    rw [List.nodup_cons] at hn
    have ha : a ∈ r := hs a (by simp)
    have := nodup_len (l := l) (r := r.erase a) hn.2 fun x hx => by
      refine (List.mem_erase_of_ne ?_).mpr (hs x (by simp [hx]))
      rintro rfl
      exact hn.1 hx
    rw [List.length_erase_of_mem ha] at this
    have hp : 0 < r.length := List.length_pos_of_mem ha
    simp only [List.length_cons]
    omega
theorem nodup_lt {l : List Nat} {n : Nat} (hn : l.Nodup) (h : ∀ x ∈ l, x < n) : l.length ≤ n := by
  have := nodup_len (r := List.range n) hn fun x hx => List.mem_range.mpr (h x hx)
  rwa [List.length_range] at this
end L2.Z.Lw

set_option Elab.async false
set_option linter.all false
set_option maxRecDepth 100000
set_option maxHeartbeats 4000000
/-! P03: the law k03. -/
namespace L2.Z.Lw
open PySem PySem.Spec PyProof.Rows
local macro_rules | `(tactic| walk_at "z1") => `(tactic| (first
  | ((with_reducible refine z_var ?_); refine ⟨_, rfl, ?_⟩)
  | with_reducible refine w_C ?_
  | with_reducible refine w_cons ?_
  | with_reducible refine w_nil ?_
  | with_reducible refine w_call ?_
  | with_reducible refine w_e2 ?_
  | with_reducible refine w_e1 ?_
  | with_reducible refine w_cb ?_
  | ((with_reducible refine z_mod ?_ ?_); (first | omega | (simp only [List.length_map, List.length_append, List.length_range]; omega)))
  | ((with_reducible refine z_div ?_ ?_ ?_); (omega); (omega))
  | ((with_reducible refine z_mul ?_ ?_); (first | (left; omega) | (right; omega)))
  | ((with_reducible refine z_pow ?_ ?_); (decide))
  | with_reducible refine z_fld (by kernel_rfl) (by kernel_rfl) ?_
  | ((with_reducible refine z_wo ?_); refine ⟨_, _, rfl, ?_⟩)
  | with_reducible refine w_tV ?_
  | ((with_reducible refine z_itR ?_ ?_); (first | omega | (simp only [List.length_map, List.length_append, List.length_range]; omega)))
  | ((with_reducible refine z_itR2 ?_ ?_); (omega))
  | ((with_reducible refine z_wt ?_); refine ⟨_, rfl, ?_⟩)
  | with_reducible refine ws_seq ?_
  | ((with_reducible refine sq_nx ?_); try simp only [List.set_cons_zero, List.set_cons_succ])
  | with_reducible refine sq_rt ?_
  | with_reducible refine sq_xc ?_
  | with_reducible refine fz_rt ?_
  | with_reducible refine fz_nx ?_
  | with_reducible refine fz_xc ?_
  | ((with_reducible refine lp_nx ?_); try simp only [List.set_cons_zero, List.set_cons_succ])
  | with_reducible refine lp_rt ?_
  | with_reducible refine lp_xc ?_
  | with_reducible refine lp_bk ?_
  | with_reducible refine lp_ct ?_
  | with_reducible refine ws_if ?_
  | with_reducible refine ws_set ?_
  | with_reducible refine ws_ret ?_
  | with_reducible refine ws_retN ?_
  | with_reducible refine ws_nil ?_
  | with_reducible refine ws_drop ?_
  | with_reducible refine w_tN ?_
  | with_reducible refine w_tA ?_
  | with_reducible refine w_tO ?_
  | with_reducible refine w_tY ?_
  | with_reducible refine wQ_t rfl ?_
  | with_reducible refine wQ_f rfl ?_
  | with_reducible refine wB_t rfl ?_
  | with_reducible refine wB_f rfl ?_
  | with_reducible refine w_tup ?_
  | with_reducible refine w_lst ?_
  | ((with_reducible refine z_wz ?_ ?_); (exact rfl))
  | with_reducible refine w_and ?_
  | with_reducible refine w_or ?_
  | with_reducible refine w_not ?_
  | with_reducible refine w_if ?_
  | with_reducible refine w_chain ?_
  | with_reducible refine ws_un ?_
  | with_reducible refine ws_par ?_
  | with_reducible refine ws_par3 ?_
  | with_reducible refine ws_sub ?_
  | with_reducible refine ws_raise ?_
  | with_reducible refine ws_for ?_
  | with_reducible refine w_lc ?_
  | with_reducible refine w_lc2 ?_
  | with_reducible refine w_isq ?_
  | with_reducible refine w_irng1 ?_
  | with_reducible refine w_irng2 ?_
  | with_reducible refine w_ienm ?_
  | with_reducible refine w_ienmK ?_
  | with_reducible refine w_izp ?_
  | with_reducible refine w_sl ?_
  | with_reducible refine w_oN ?_
  | with_reducible refine w_oS ?_
  | with_reducible refine w_m ?_
  | ((with_reducible refine w_lam ?_); try simp only [List.replicate_succ, List.replicate_zero, Nat.reduceSub])
  | ((with_reducible refine sj_nx ?_); try simp only [List.set_cons_zero, List.set_cons_succ])
  | with_reducible refine sj_rt ?_
  | with_reducible refine sj_xc ?_
  | with_reducible refine sj_bk ?_
  | with_reducible refine sj_ct ?_
  | with_reducible refine ws_try ?_
  | with_reducible refine tr_nx ?_
  | with_reducible refine tr_rt ?_
  | with_reducible refine tr_xc ?_
  | with_reducible refine w_dict ?_
  | with_reducible refine w_pcons ?_
  | with_reducible refine w_pnil ?_
  | with_reducible refine rh_nx ?_
  | with_reducible refine rh_rt ?_
  | fail "z"))
local macro_rules | `(tactic| walk_at "z") => `(tactic| ((repeat' (walk_at "z1")); try dsimp only))
local macro_rules | `(tactic| walk_at "zF") => `(tactic| (refine wQ_f (by simp only [decide_eq_false_iff_not, decide_eq_true_eq, List.length_map, List.length_append, Int.not_lt, Bool.not_eq_eq_eq_not, Bool.not_true, Bool.not_false]; omega) ?_; walk_at "z"))
local macro_rules | `(tactic| walk_at "zT") => `(tactic| (refine wQ_t (by simp only [decide_eq_false_iff_not, decide_eq_true_eq, List.length_map, List.length_append, Int.not_lt, Bool.not_eq_eq_eq_not, Bool.not_true, Bool.not_false]; omega) ?_; walk_at "z"))
local macro_rules | `(tactic| walk_at "z0") => `(tactic| simp only [List.map_cons, List.map_nil, List.replicate_succ, List.replicate_zero, List.cons_append, List.nil_append, Nat.reduceSub, Nat.sub_self])
local macro_rules | `(tactic| walk_at "zc") => `(tactic| (walk_at "z0"; walk_at "z"))
def pI (i : Nat) : PyData := .int (0 + (i : Nat))
def pNP (p : Nat × Nat) : PyData := .tuple [.int (0 + (p.1 : Nat)), .int (0 + (p.2 : Nat))]
theorem pd_np {S : Sto} {n : Nat} (p : Nat × Nat) : toPD (n + 2) S (dNP p) = some (pNP p) := pd_tup (by simp only [toPDs, pd_int])
theorem pd_nps {S : Sto} {l : List (Nat × Nat)} : toPD 40 S (.tup (l.map dNP)) = some (.tuple (l.map pNP)) := pd_tup (toPDs_map (fun p => pd_np p) _)
theorem pd_npl {S : Sto} {n : Nat} {l : List (Nat × Nat)} (g : S.get n = some (.lst (l.map dNP))) : toPD 40 S (.loc n) = some (.list (l.map pNP)) := pd_loc g (toPDs_map (fun p => pd_np p) _)
theorem pd_is {S : Sto} {l : List Nat} : toPD 40 S (.tup (l.map dI)) = some (.tuple (l.map pI)) := pd_tup (toPDs_map (fun p => pd_int) _)
theorem pd_its {S : Sto} {l : List Int} : toPD 40 S (.tup (l.map .int)) = some (.tuple (l.map .int)) := pd_tup (toPDs_map (fun p => pd_int) _)
theorem eqv_np (p q : Nat × Nat) : PyData.eqv (pNP p) (pNP q) = (p == q) := by
  rw [Bool.eq_iff_iff, beq_iff_eq]
  simp only [pNP, PyData.eqv, PyData.eqvAll, Bool.and_true, Bool.and_eq_true, beq_iff_eq]
  constructor
  · rintro ⟨h1, h2⟩; exact Prod.ext (by omega) (by omega)
  · rintro rfl; exact ⟨rfl, rfl⟩
theorem eqv_nps (l : List (Nat × Nat)) : PyData.eqv (.tuple (l.map pNP)) (.tuple (l.map pNP)) = true := by
  rw [PyData.eqv, eqvAll_map fun p => by rw [eqv_np]; simp]
theorem eqv_is (l : List Nat) : PyData.eqv (.tuple (l.map pI)) (.tuple (l.map pI)) = true := by
  rw [PyData.eqv, eqvAll_map fun p => by simp [pI, PyData.eqv]]
theorem eqv_its (l : List Int) : PyData.eqv (.tuple (l.map .int)) (.tuple (l.map .int)) = true := by
  rw [PyData.eqv, eqvAll_map fun p => by simp [PyData.eqv]]
section
variable {k : Nat} {S : Sto}
theorem s_lin {t u : Thg} : wp (callZ bs (k + 1) i__law_in [dThing t, dThing u]) S (fun d S' => d = .bl (inA t u) ∧ S' = S) noX := by
  refine call_go (b := b__law_in) rfl rfl rfl ?_
  unfold b__law_in
  walk_at "zc"
  exact ⟨rfl, rfl⟩
theorem s_lout {t u : Thg} : wp (callZ bs (k + 1) i__law_out [dThing t, dThing u]) S (fun d S' => d = .bl (outA t u) ∧ S' = S) noX := by
  obtain ⟨p, o⟩ := t
  obtain ⟨q, r⟩ := u
  refine call_go (b := b__law_out) rfl rfl rfl ?_
  unfold b__law_out
  cases o with
  | none =>
    walk_at "zc"
    exact ⟨rfl, rfl⟩
  | some c =>
    cases r with
    | none =>
      walk_at "zc"
      exact ⟨rfl, rfl⟩
    | some d =>
      walk_at "zc"
      exact ⟨rfl, rfl⟩
theorem s_lturned {t u : Thg} : wp (callZ bs (k + 2) i__law_turned [dThing t, dThing u]) S (fun d S' => d = .bl (trn t u) ∧ S' = S) noX := by
  refine call_go (b := b__law_turned) rfl rfl rfl ?_
  unfold b__law_turned
  walk_at "zc"
  refine s_lin.use ?_
  rintro d S1 ⟨rfl, rfl⟩
  refine wB_c (fun h => ?_) (fun h => ?_)
  · walk_at "z"
    refine s_lout.use ?_
    rintro d S1 ⟨rfl, rfl⟩
    walk_at "z"
    exact ⟨by unfold trn; rw [h, Bool.true_and], rfl⟩
  · walk_at "z"
    exact ⟨by unfold trn; rw [h, Bool.false_and], rfl⟩
theorem s_learly {t : Thg} : wp (callZ bs (k + 1) i__law_early [dThing t]) S (fun d S' => d = .bl (erl t) ∧ S' = S) noX := by
  obtain ⟨p, o⟩ := t
  refine call_go (b := b__law_early) rfl rfl rfl ?_
  unfold b__law_early
  cases o with
  | none =>
    walk_at "zc"
    exact ⟨rfl, rfl⟩
  | some c =>
    walk_at "zc"
    exact ⟨rfl, rfl⟩
/-! the law's own levels -/
def th (ts : List Thg) (i : Nat) : Thg := ts.getD i ((0, 0), none)
theorem th_get {ts : List Thg} {i : Nat} (h : i < ts.length) : ts[i]? = some (th ts i) := by
  unfold th
  rw [List.getD_eq_getElem?_getD, List.getElem?_eq_getElem h]; rfl
def frm (ts : List Thg) (c : Nat) : List Nat := (List.range ts.length).filter fun o => trn (th ts o) (th ts c)
theorem frm_mem {ts : List Thg} {c o : Nat} (hc : c < ts.length) : o ∈ frm ts c ↔ Rtn ts o c := by
  unfold frm
  rw [List.mem_filter, List.mem_range]
  constructor
  · rintro ⟨h1, h2⟩; exact ⟨_, _, th_get h1, th_get hc, h2⟩
  · rintro ⟨t, u, h1, h2, h3⟩
    have l1 := (List.getElem?_eq_some_iff.mp h1).1
    rw [th_get l1] at h1
    rw [th_get hc] at h2
    cases h1; cases h2
    exact ⟨l1, h3⟩
theorem frm_len (ts : List Thg) (c : Nat) : (frm ts c).length ≤ ts.length := by
  have := List.length_filter_le (fun o => trn (th ts o) (th ts c)) (List.range ts.length)
  rwa [List.length_range] at this
def lng (ts : List Thg) (cur : List Nat) : List (Nat × Nat) := cur.flatMap fun c => (frm ts c).map fun o => (o, c)
theorem lng_len (ts : List Thg) (cur : List Nat) : (lng ts cur).length ≤ cur.length * ts.length := flat_len cur fun c _ => by rw [List.length_map]; exact frm_len ts c
theorem lng_pw {ts : List Thg} {cur : List Nat} {s j : Nat} (hj : j < ts.length) (h : ∀ o, o ∈ cur ↔ Pw ts s o j) (o : Nat) : o ∈ (lng ts cur).map (·.1) ↔ Pw ts (s + 1) o j := by
  unfold lng
  rw [List.mem_map]
  constructor
  · rintro ⟨p, hp, rfl⟩
    obtain ⟨c, hc, hq⟩ := List.mem_flatMap.mp hp
    obtain ⟨o, ho, rfl⟩ := List.mem_map.mp hq
    have pc := (h c).mp hc
    exact ⟨c, (frm_mem (pw_lt hj pc)).mp ho, pc⟩
  · rintro ⟨c, rt, pc⟩
    exact ⟨(o, c), List.mem_flatMap.mpr ⟨c, (h c).mpr pc, List.mem_map.mpr ⟨o, (frm_mem (pw_lt hj pc)).mpr rt, rfl⟩⟩, rfl⟩
def szOf (σ : Z.Env) (n : Nat) : Nat := match σ[4]? with
  | some (some (D.int i)) => n + 1 - i.toNat
  | _ => 0
theorem pd_cs {S : Sto} {n : Nat} {l : List Nat} (g : S.get n = some (.lst (l.map dC))) : toPD 40 S (.loc n) = some (.list (l.map fun o => .tuple [.int (0 + (o : Nat))])) := pd_loc g (toPDs_map (fun p => pd_tup (by simp only [toPDs, pd_int])) _)
theorem eqv_nil' {ps : List PyData} : PyData.eqv (.list ps) (.list []) = ps.isEmpty := by cases ps <;> rfl
theorem s_levels {ts : List Thg} (hl : ts.length ≤ 100) (ok : ∀ t ∈ ts, okTh t = true) : wp (callZ bs (k + 3) i__law_levels [.tup (ts.map dThing)]) S (fun d S' => d = .tup ((lvl ts ts.length).map .int) ∧ Gr S S') noX := by
  have hk4 := Nat.mul_le_mul hl hl
  refine call_go (b := b__law_levels) rfl rfl rfl ?_
  unfold b__law_levels
  walk_at "zc"
  rw [List.length_map]
  refine for_rng (fun i σ S1 => ∃ o2 o3 o4 o5 o6 o7 o8 : Option D, σ = [some (.tup (ts.map dThing)), some (.loc S.n), o2, o3, o4, o5, o6, o7, o8] ∧ Gr S S1 ∧ S1.get S.n = some (.lst (((lvl ts ts.length).take i).map .int))) ⟨_, _, _, _, _, _, _, rfl, (Gx.refl _ _).push _, Sto.get_push _ _⟩ ?_ ?_
  · rintro i σ S1 hi ⟨o2, o3, o4, o5, o6, o7, o8, rfl, gr, g⟩
    refine ⟨_, rfl, ?_⟩
    simp only [List.set_cons_zero, List.set_cons_succ]
    refine ws_cut (fun σ S2 => σ = [some (.tup (ts.map dThing)), some (.loc S.n), some (dI i), some (.loc S1.n), some (.int 0), o5, o6, o7, o8] ∧ Gr S1 S2 ∧ S2.get S1.n = some (.lst ([i].map dC))) ?_ ?_
    · walk_at "z"
      exact ⟨by trivial, (Gx.refl _ _).push _, Sto.get_push _ _⟩
    rintro σ S2 ⟨rfl, gr2, g2⟩
    refine ws_cut (fun σ S3 => ∃ (s : Nat) (o3 o5 o6 o7 o8 : Option D), σ = [some (.tup (ts.map dThing)), some (.loc S.n), some (dI i), o3, some (.int ((s + 1 : Nat) : Int)), o5, o6, o7, o8] ∧ Gr S1 S3 ∧ hasP ts s i ∧ ¬ hasP ts (s + 1) i) ?_ ?_
    · refine ws_while (fun σ S3 => ∃ (s c : Nat) (cur : List Nat) (o5 o6 o7 o8 : Option D), σ = [some (.tup (ts.map dThing)), some (.loc S.n), some (dI i), some (.loc c), some (.int (s : Int)), o5, o6, o7, o8] ∧ Gr S1 S3 ∧ S3.get c = some (.lst (cur.map dC)) ∧ cur.Nodup ∧ (∀ o, o ∈ cur ↔ Pw ts s o i) ∧ (s = 0 ∨ hasP ts (s - 1) i)) (fun σ _ => szOf σ ts.length) ⟨0, S1.n, [i], _, _, _, _, rfl, gr2, g2, by simp, fun o => by simp [Pw], .inl rfl⟩ ?_ ?_
      · show ts.length + 1 - 0 < 100000
        omega
      rintro σ S3 ⟨s, c, cur, o5, o6, o7, o8, rfl, gr3, g3, nd, hc, hs⟩
      have hcl : ∀ o ∈ cur, o < ts.length := fun o ho => pw_lt hi ((hc o).mp ho)
      have hcn : cur.length ≤ ts.length := nodup_lt nd hcl
      walk_at "z"
      have g3' : (S3.push (.lst [])).get c = some (.lst (cur.map dC)) := (Sto.get_push_lt (Sto.lt_of g3)).trans g3
      refine z_ne (pd_cs g3') (pd_loc (ps := []) (Sto.get_push _ _) rfl) ?_
      rw [eqv_nil']
      walk_at "z"
      cases hcur : cur with
      | nil =>
        subst hcur
        walk_at "z"
        have hno : ¬ hasP ts s i := by
          rintro ⟨o, p⟩
          exact absurd ((hc o).mpr p) (by simp)
        cases s with
        | zero => exact absurd hasP_zero hno
        | succ s =>
          refine ⟨s, _, _, _, _, _, rfl, gr3.push _, ?_, hno⟩
          rcases hs with h | h
          · cases h
          · exact h
      | cons c0 cs =>
        have hps : hasP ts s i := ⟨c0, (hc c0).mp (by rw [hcur]; simp)⟩
        have hsl := hasP_lt ok hi hps
        rw [← hcur]
        refine wQ_t (by rw [hcur]; rfl) ?_
        clear hcur c0 cs
        have g4 : ((S3.push (.lst [])).push (.lst [])).get c = some (.lst (cur.map dC)) := (Sto.get_push_lt (Sto.lt_of g3')).trans g3'
        refine ws_cut (fun σ S4 => σ = [some (.tup (ts.map dThing)), some (.loc S.n), some (dI i), some (.loc c), some (.int ((s + 1 : Nat) : Int)), o5, o6, o7, o8] ∧ S4 = S3.push (.lst [])) ?_ ?_
        · walk_at "z"
          exact ⟨by trivial, by trivial⟩
        rintro σ S4 ⟨rfl, rfl⟩
        refine ws_cut (fun σ S4 => σ = [some (.tup (ts.map dThing)), some (.loc S.n), some (dI i), some (.loc c), some (.int ((s + 1 : Nat) : Int)), some (.loc (S3.n + 1)), o6, o7, o8] ∧ S4 = (S3.push (.lst [])).push (.lst [])) ?_ ?_
        · walk_at "z"
          exact ⟨by trivial, by trivial⟩
        rintro σ S4 ⟨rfl, rfl⟩
        generalize hS5 : (S3.push (.lst [])).push (.lst []) = S5 at g4
        have gr5 : Gr S1 S5 := by rw [← hS5]; exact (gr3.push _).push _
        have g5 : S5.get (S3.n + 1) = some (.lst []) := by rw [← hS5]; exact Sto.get_push (S3.push (.lst [])) _
        have hn5 : c < S3.n + 1 := Nat.lt_succ_of_lt (Sto.lt_of g3)
        have hS1 : S1.n ≤ S3.n := gr3.le
        refine ws_cut (fun σ S6 => ∃ o6 o7 o8 : Option D, σ = [some (.tup (ts.map dThing)), some (.loc S.n), some (dI i), some (.loc c), some (.int ((s + 1 : Nat) : Int)), some (.loc (S3.n + 1)), o6, o7, o8] ∧ Gr S1 S6 ∧ S6.get (S3.n + 1) = some (.lst ((lng ts cur).map dNP))) ?_ ?_
        · walk_at "z"
          refine z_itL g4 ?_
          refine for_L (as := cur) (e := dC) (fun j σ S6 => ∃ o6 o7 o8 : Option D, σ = [some (.tup (ts.map dThing)), some (.loc S.n), some (dI i), some (.loc c), some (.int ((s + 1 : Nat) : Int)), some (.loc (S3.n + 1)), o6, o7, o8] ∧ Gr S1 S6 ∧ S6.get c = some (.lst (cur.map dC)) ∧ S6.get (S3.n + 1) = some (.lst ((lng ts (cur.take j)).map dNP))) (fun j σ S6 h => by obtain ⟨_, _, _, _, _, h, _⟩ := h; exact h) ⟨_, _, _, rfl, gr5, g4, g5⟩ ?_ ?_
          · rintro j c1 σ S6 hj ⟨o6, o7, o8, rfl, gr6, g6, g7⟩
            have hc1 : c1 < ts.length := hcl c1 (List.mem_of_getElem? hj)
            have htk : cur.take (j + 1) = cur.take j ++ [c1] := by rw [List.take_succ, hj]; rfl
            have hlg := lng_len ts (cur.take j)
            have htl : (cur.take j).length ≤ ts.length := by rw [List.length_take]; omega
            have hlg2 := Nat.mul_le_mul htl (Nat.le_refl ts.length)
            have hfl := frm_len ts c1
            walk_at "z"
            rw [List.length_map]
            refine lc_R (fun o => trn (th ts o) (th ts c1)) (fun o => dI o) (szl (by omega)) (fun o ho S7 gr7 => ?_) (fun S7 gr7 hn7 g8 => ?_)
            · walk_at "z"
              refine z_ixT (at_thg (th_get ho)) ?_
              walk_at "z"
              refine z_ixT (at_thg (th_get hc1)) ?_
              walk_at "z"
              refine s_lturned.use ?_
              rintro d S8 ⟨rfl, rfl⟩
              refine ⟨_, rfl, rfl, Gx.refl _ _, fun _ => ?_⟩
              walk_at "z"
              exact ⟨rfl, Gx.refl _ _⟩
            · walk_at "z"
              have g9 := gr7.get g7
              refine w_chkL g9 ?_
              walk_at "z"
              refine z_itL g8 ?_
              refine lc_L1 (as := frm ts c1) (e := dI) g8 (fun o => dNP (o, c1)) (szl (by omega)) (fun o ho S8 gr8 => ?_) (fun S8 gr8 hn8 g10 => ?_)
              · walk_at "z"
                exact ⟨rfl, Gx.refl _ _⟩
              · walk_at "z"
                have g11 := gr8.get g9
                refine z_ext g11 g10 (szl (by rw [List.length_map, List.length_map]; omega)) ?_
                walk_at "z"
                have hlt := Sto.lt_of g11
                refine ⟨_, _, _, rfl, ((gr6.trans gr7).trans gr8).set (.inr (by omega)) hlt _, (Sto.get_set_ne (by omega) hlt).trans (gr8.get (gr7.get g6)), ?_⟩
                rw [Sto.get_set g11, htk]
                unfold lng
                rw [List.flatMap_append, List.map_append]
                simp
          · rintro σ S6 ⟨o6, o7, o8, rfl, gr6, g6, g7⟩
            rw [List.take_length] at g7
            walk_at "z"
            exact ⟨_, _, _, rfl, gr6, g7⟩
        rintro σ S6 ⟨o6, o7, o8, rfl, gr6, g7⟩
        have hlg := lng_len ts cur
        have hlg2 := Nat.mul_le_mul hcn (Nat.le_refl ts.length)
        walk_at "z"
        refine z_itL g7 ?_
        refine lc_L1 (as := lng ts cur) (e := dNP) g7 (fun p => dCT p.1) (szl (by omega)) (fun p hp S7 gr7 => ?_) (fun S7 gr7 hn7 g8 => ?_)
        · walk_at "z"
          exact ⟨rfl, Gx.refl _ _⟩
        have e8 : ((lng ts cur).map fun p => dCT p.1) = ((lng ts cur).map (·.1)).map dCT := by rw [List.map_map]; rfl
        rw [e8] at g8
        generalize hL : (lng ts cur).map (·.1) = L at g8
        have hLl : L.length ≤ 10000 := by rw [← hL, List.length_map]; omega
        have hdd : (dd L).length ≤ ts.length := by
          obtain ⟨h1, h2⟩ := ins_ok L [] List.nodup_nil
          refine nodup_lt h1 fun x hx => ?_
          rcases (h2 x).mp hx with h | h
          · cases h
          · rw [← hL] at h
            exact pw_lt hi ((lng_pw hi hc x).mp h)
        walk_at "z"
        refine z_dictP g8 (pairs_1 L) (by rw [List.length_map]; omega) ?_
        walk_at "z"
        refine z_sortT (Sto.get_push _ _) ?_ (by rw [keys_1]; exact srt_1 _) ?_
        · have := fold_1 L []
          rw [List.map_nil] at this
          rw [this, List.length_map]
          have : (dd L).length ≤ ts.length := hdd
          unfold dd at this
          omega
        walk_at "z"
        obtain ⟨q1, q2⟩ := nxC_ok L
        refine ⟨⟨s + 1, _, nxC L, _, _, _, _, rfl, ((gr6.trans gr7).push _).push _, Sto.get_push _ _, q1, fun o => ?_, .inr hps⟩, ?_⟩
        · rw [q2, ← hL]; exact lng_pw hi hc o
        · show ts.length + 1 - (s + 1) < ts.length + 1 - s
          omega
    · rintro σ S3 ⟨s, o3, o5, o6, o7, o8, rfl, gr3, h1, h2⟩
      have hat := lvl_at ok hi h1 h2
      have htk : (lvl ts ts.length).take (i + 1) = (lvl ts ts.length).take i ++ [((s + 1 : Nat) : Int)] := by rw [List.take_succ, hat]; rfl
      have g3 := gr3.get g
      walk_at "z"
      refine w_chkL g3 ?_
      walk_at "z"
      refine z_app g3 (Nat.lt_of_lt_of_le (m := 100000) (by rw [List.length_map, List.length_take]; omega) (by decide)) ?_
      walk_at "z"
      refine ⟨_, _, _, _, _, _, _, rfl, (gr.trans gr3).set (.inr (Nat.le_refl _)) (Sto.lt_of g3) _, ?_⟩
      rw [Sto.get_set g3, htk, List.map_append]; rfl
  · rintro σ S1 ⟨o2, o3, o4, o5, o6, o7, o8, rfl, gr, g⟩
    rw [show (ts.length : Int).toNat = (lvl ts ts.length).length by rw [lvl_len]; omega, List.take_length] at g
    walk_at "z"
    refine z_tupL g ?_
    walk_at "z"
    exact ⟨by trivial, gr⟩
end
end L2.Z.Lw

set_option Elab.async false
set_option linter.all false
set_option maxRecDepth 100000
set_option maxHeartbeats 4000000
/-! Q03: the law k03: histories, the law. -/
namespace L2.Z.Lw
open PySem PySem.Spec PyProof.Rows
local macro_rules | `(tactic| walk_at "z1") => `(tactic| (first
  | ((with_reducible refine z_var ?_); refine ⟨_, rfl, ?_⟩)
  | with_reducible refine w_C ?_
  | with_reducible refine w_cons ?_
  | with_reducible refine w_nil ?_
  | with_reducible refine w_call ?_
  | with_reducible refine w_e2 ?_
  | with_reducible refine w_e1 ?_
  | with_reducible refine w_cb ?_
  | ((with_reducible refine z_mod ?_ ?_); (first | omega | (simp only [List.length_map, List.length_append, List.length_range]; omega)))
  | ((with_reducible refine z_div ?_ ?_ ?_); (omega); (omega))
  | ((with_reducible refine z_mul ?_ ?_); (first | (left; omega) | (right; omega)))
  | ((with_reducible refine z_pow ?_ ?_); (decide))
  | with_reducible refine z_fld (by kernel_rfl) (by kernel_rfl) ?_
  | ((with_reducible refine z_wo ?_); refine ⟨_, _, rfl, ?_⟩)
  | with_reducible refine w_tV ?_
  | ((with_reducible refine z_itR ?_ ?_); (first | omega | (simp only [List.length_map, List.length_append, List.length_range]; omega)))
  | ((with_reducible refine z_itR2 ?_ ?_); (omega))
  | ((with_reducible refine z_wt ?_); refine ⟨_, rfl, ?_⟩)
  | with_reducible refine ws_seq ?_
  | ((with_reducible refine sq_nx ?_); try simp only [List.set_cons_zero, List.set_cons_succ])
  | with_reducible refine sq_rt ?_
  | with_reducible refine sq_xc ?_
  | with_reducible refine fz_rt ?_
  | with_reducible refine fz_nx ?_
  | with_reducible refine fz_xc ?_
  | ((with_reducible refine lp_nx ?_); try simp only [List.set_cons_zero, List.set_cons_succ])
  | with_reducible refine lp_rt ?_
  | with_reducible refine lp_xc ?_
  | with_reducible refine lp_bk ?_
  | with_reducible refine lp_ct ?_
  | with_reducible refine ws_if ?_
  | with_reducible refine ws_set ?_
  | with_reducible refine ws_ret ?_
  | with_reducible refine ws_retN ?_
  | with_reducible refine ws_nil ?_
  | with_reducible refine ws_drop ?_
  | with_reducible refine w_tN ?_
  | with_reducible refine w_tA ?_
  | with_reducible refine w_tO ?_
  | with_reducible refine w_tY ?_
  | with_reducible refine wQ_t rfl ?_
  | with_reducible refine wQ_f rfl ?_
  | with_reducible refine wB_t rfl ?_
  | with_reducible refine wB_f rfl ?_
  | with_reducible refine w_tup ?_
  | with_reducible refine w_lst ?_
  | ((with_reducible refine z_wz ?_ ?_); (exact rfl))
  | with_reducible refine w_and ?_
  | with_reducible refine w_or ?_
  | with_reducible refine w_not ?_
  | with_reducible refine w_if ?_
  | with_reducible refine w_chain ?_
  | with_reducible refine ws_un ?_
  | with_reducible refine ws_par ?_
  | with_reducible refine ws_par3 ?_
  | with_reducible refine ws_sub ?_
  | with_reducible refine ws_raise ?_
  | with_reducible refine ws_for ?_
  | with_reducible refine w_lc ?_
  | with_reducible refine w_lc2 ?_
  | with_reducible refine w_isq ?_
  | with_reducible refine w_irng1 ?_
  | with_reducible refine w_irng2 ?_
  | with_reducible refine w_ienm ?_
  | with_reducible refine w_ienmK ?_
  | with_reducible refine w_izp ?_
  | with_reducible refine w_sl ?_
  | with_reducible refine w_oN ?_
  | with_reducible refine w_oS ?_
  | with_reducible refine w_m ?_
  | ((with_reducible refine w_lam ?_); try simp only [List.replicate_succ, List.replicate_zero, Nat.reduceSub])
  | ((with_reducible refine sj_nx ?_); try simp only [List.set_cons_zero, List.set_cons_succ])
  | with_reducible refine sj_rt ?_
  | with_reducible refine sj_xc ?_
  | with_reducible refine sj_bk ?_
  | with_reducible refine sj_ct ?_
  | with_reducible refine ws_try ?_
  | with_reducible refine tr_nx ?_
  | with_reducible refine tr_rt ?_
  | with_reducible refine tr_xc ?_
  | with_reducible refine w_dict ?_
  | with_reducible refine w_pcons ?_
  | with_reducible refine w_pnil ?_
  | with_reducible refine rh_nx ?_
  | with_reducible refine rh_rt ?_
  | fail "z"))
local macro_rules | `(tactic| walk_at "z") => `(tactic| ((repeat' (walk_at "z1")); try dsimp only))
local macro_rules | `(tactic| walk_at "zF") => `(tactic| (refine wQ_f (by simp only [decide_eq_false_iff_not, decide_eq_true_eq, List.length_map, List.length_append, Int.not_lt, Bool.not_eq_eq_eq_not, Bool.not_true, Bool.not_false]; omega) ?_; walk_at "z"))
local macro_rules | `(tactic| walk_at "zT") => `(tactic| (refine wQ_t (by simp only [decide_eq_false_iff_not, decide_eq_true_eq, List.length_map, List.length_append, Int.not_lt, Bool.not_eq_eq_eq_not, Bool.not_true, Bool.not_false]; omega) ?_; walk_at "z"))
local macro_rules | `(tactic| walk_at "z0") => `(tactic| simp only [List.map_cons, List.map_nil, List.replicate_succ, List.replicate_zero, List.cons_append, List.nil_append, Nat.reduceSub, Nat.sub_self])
local macro_rules | `(tactic| walk_at "zc") => `(tactic| (walk_at "z0"; walk_at "z"))
section
variable {k : Nat} {S : Sto}
theorem pd_bl3 {S : Sto} {n : Nat} {a b c : Bool} (g : S.get n = some (.lst [.bl a, .bl b, .bl c])) : toPD 40 S (.loc n) = some (.list [.bool a, .bool b, .bool c]) := pd_loc g rfl
theorem eqv_bl3 (a b c : Bool) : PyData.eqv (.list [.bool a, .bool b, .bool c]) (.list [.bool a, .bool b, .bool c]) = true := by
  simp [PyData.eqv, PyData.eqvAll]
theorem s_history_right {h : Hst} (H : SmH 9 2 h) : wp (callZ bs (k + 8) i__law_history_right [dHist h]) S (fun d S' => d = .bl true ∧ Gr S S') noX := by
  have OH := H.ok (by omega) (by omega)
  have hn := OH.n
  have ok := OH.t
  have hpl := prs_len h.1
  have hk4 := Nat.mul_le_mul hn hn
  refine call_go (b := b__law_history_right) rfl rfl rfl ?_
  unfold b__law_history_right
  walk_at "z0"
  refine ws_cut (fun σ S1 => σ = [some (dHist h), none, some (.tup (h.1.map dThing)), some (.loc S.n), none, none, none, none, none, none] ∧ Gr S S1 ∧ S1.get S.n = some (.lst [])) ?_ ?_
  · walk_at "z"
    exact ⟨by trivial, (Gx.refl _ _).push _, Sto.get_push _ _⟩
  rintro σ S1 ⟨rfl, gr1, g1⟩
  refine ws_cut (fun σ S2 => ∃ (p : Nat) (o1 o4 o5 o6 o7 o8 : Option D), σ = [some (dHist h), o1, some (.tup (h.1.map dThing)), some (.loc p), o4, o5, o6, o7, o8, none] ∧ Gr S S2 ∧ S2.get p = some (.lst ((prs h.1).map dNP))) ?_ ?_
  · walk_at "z"
    refine for_E (as := h.1) (e := dThing) (fun i σ S2 => ∃ (p : Nat) (o1 o4 o5 o6 o7 o8 : Option D), σ = [some (dHist h), o1, some (.tup (h.1.map dThing)), some (.loc p), o4, o5, o6, o7, o8, none] ∧ Gr S S2 ∧ S2.get p = some (.lst (((h.1.zipIdx.take i).flatMap fun q => prsF h.1 q.1 q.2).map dNP))) ⟨_, _, _, _, _, _, _, rfl, gr1, g1⟩ ?_ ?_
    · rintro i t σ S2 ht ⟨p, o1, o4, o5, o6, o7, o8, rfl, gr2, g2⟩
      have htk : h.1.zipIdx.take (i + 1) = h.1.zipIdx.take i ++ [(t, i)] := by rw [List.take_succ, zip_get ht]; rfl
      have hAl := prsK_len h.1 (h.1.zipIdx.take i)
      have hA2 : (h.1.zipIdx.take i).length ≤ h.1.length := by rw [List.length_take, List.length_zipIdx]; omega
      have hA3 := Nat.mul_le_mul hA2 (Nat.le_refl h.1.length)
      rw [htk, List.flatMap_append]
      generalize (h.1.zipIdx.take i).flatMap (fun q => prsF h.1 q.1 q.2) = A at g2 hAl ⊢
      walk_at "z"
      refine for_E (as := h.1) (e := dThing) (fun j σ S3 => ∃ (p : Nat) (o1 o6 o7 o8 : Option D), σ = [some (dHist h), o1, some (.tup (h.1.map dThing)), some (.loc p), some (dI i), some (dThing t), o6, o7, o8, none] ∧ Gr S S3 ∧ S3.get p = some (.lst ((A ++ ((h.1.zipIdx.take j).filter fun q => trn t q.1).map fun q => (i, q.2)).map dNP))) ⟨_, _, _, _, _, rfl, gr2, by rw [g2]; simp⟩ ?_ ?_
      · rintro j u σ S3 hu ⟨p, o1, o6, o7, o8, rfl, gr3, g3⟩
        have htj : h.1.zipIdx.take (j + 1) = h.1.zipIdx.take j ++ [(u, j)] := by rw [List.take_succ, zip_get hu]; rfl
        have hB := List.length_filter_le (fun q => trn t q.1) (h.1.zipIdx.take j)
        have hB2 : (h.1.zipIdx.take j).length ≤ h.1.length := by rw [List.length_take, List.length_zipIdx]; omega
        have eJ : (A ++ ((h.1.zipIdx.take (j + 1)).filter fun q => trn t q.1).map fun q => (i, q.2)) = (A ++ ((h.1.zipIdx.take j).filter fun q => trn t q.1).map fun q => (i, q.2)) ++ (([(u, j)] : List (Thg × Nat)).filter fun q => trn t q.1).map fun q => (i, q.2) := by
          rw [htj, List.filter_append, List.map_append, List.append_assoc]
        rw [eJ]
        have hC : (A ++ ((h.1.zipIdx.take j).filter fun q => trn t q.1).map fun q => (i, q.2)).length ≤ 1000 := by
          rw [List.length_append, List.length_map]; omega
        generalize (A ++ ((h.1.zipIdx.take j).filter fun q => trn t q.1).map fun q => (i, q.2)) = C at g3 hC ⊢
        refine ⟨_, rfl, ?_⟩
        simp only [List.set_cons_zero, List.set_cons_succ]
        refine ws_cut (fun σ S4 => ∃ n : Nat, σ = [some (dHist h), some (.loc n), some (.tup (h.1.map dThing)), some (.loc p), some (dI i), some (dThing t), some (dI j), some (dThing u), o8, none] ∧ Gr S3 S4 ∧ S4.get n = some (.lst [.bl (inA t u), .bl (outA t u), .bl (trn t u)])) ?_ ?_
        · walk_at "z"
          refine s_lin.use ?_
          rintro d S4 ⟨rfl, rfl⟩
          walk_at "z"
          refine s_lout.use ?_
          rintro d S5 ⟨rfl, rfl⟩
          walk_at "z"
          refine s_lturned.use ?_
          rintro d S6 ⟨rfl, rfl⟩
          walk_at "z"
          exact ⟨_, by trivial, (Gx.refl _ _).push _, Sto.get_push _ _⟩
        rintro σ S4 ⟨n, rfl, gr4, g4⟩
        refine ws_cut (fun σ S5 => ∃ o8 : Option D, σ = [some (dHist h), some (.loc n), some (.tup (h.1.map dThing)), some (.loc p), some (dI i), some (dThing t), some (dI j), some (dThing u), o8, none] ∧ Gr S4 S5) ?_ ?_
        · walk_at "z"
          refine for_rng (fun _ σ S5 => ∃ o8 : Option D, σ = [some (dHist h), some (.loc n), some (.tup (h.1.map dThing)), some (.loc p), some (dI i), some (dThing t), some (dI j), some (dThing u), o8, none] ∧ Gr S4 S5) ⟨_, rfl, Gx.refl _ _⟩ ?_ ?_
          · rintro m σ S5 hm ⟨o8, rfl, gr5⟩
            walk_at "z"
            refine (s_is_in OH ht hu).use ?_
            rintro d S6 ⟨rfl, gr6⟩
            walk_at "z"
            refine (s_is_out OH ht hu).use ?_
            rintro d S7 ⟨rfl, gr7⟩
            walk_at "z"
            refine (s_is_turned OH ht hu).use ?_
            rintro d S8 ⟨rfl, gr8⟩
            walk_at "z"
            have gr9 : Gr S4 (S8.push (.lst [.bl (inA t u), .bl (outA t u), .bl (trn t u)])) := (((gr5.trans gr6).trans gr7).trans gr8).push _
            refine z_ne (pd_bl3 (Sto.get_push _ _)) (pd_bl3 (gr9.get g4)) ?_
            rw [eqv_bl3]
            walk_at "z"
            exact ⟨_, rfl, gr9⟩
          · rintro σ S5 ⟨o8, rfl, gr5⟩
            walk_at "z"
            exact ⟨_, rfl, gr5⟩
        rintro σ S5 ⟨o8', rfl, gr5⟩
        have g5 := gr5.get g4
        have g6 := gr5.get (gr4.get g3)
        walk_at "z"
        refine z_ixL (d := .bl (trn t u)) ((Sto.get_push_lt (Sto.lt_of g5)).trans g5) rfl ?_
        walk_at "z"
        have g7 : (S5.push (.lst [.tup [dI i, dI j]])).get p = some (.lst (C.map dNP)) := (Sto.get_push_lt (Sto.lt_of g6)).trans g6
        by_cases q : trn t u = true
        · rw [q, if_pos rfl]
          refine z_mulL (Sto.get_push _ _) (by decide) (szl (by simp)) ?_
          walk_at "z"
          refine z_addL ((Sto.get_push_lt (Sto.lt_of g7)).trans g7) (Sto.get_push _ _) (szl (by simp; omega)) ?_
          walk_at "z"
          refine ⟨_, _, _, _, _, rfl, ((((gr3.trans gr4).trans gr5).push _).push _).push _, ?_⟩
          rw [Sto.get_push]
          simp [List.filter_cons, q, dNP, dI]
        · rw [Bool.not_eq_true] at q
          rw [q, if_neg (by simp)]
          refine z_mulL (Sto.get_push _ _) (by decide) (szl (by simp)) ?_
          walk_at "z"
          refine z_addL ((Sto.get_push_lt (Sto.lt_of g7)).trans g7) (Sto.get_push _ _) (szl (by simp; omega)) ?_
          walk_at "z"
          refine ⟨_, _, _, _, _, rfl, ((((gr3.trans gr4).trans gr5).push _).push _).push _, ?_⟩
          rw [Sto.get_push]
          simp [List.filter_cons, q]
      · rintro σ S3 ⟨p, o1, o6, o7, o8, rfl, gr3, g3⟩
        rw [← List.length_zipIdx (l := h.1) (i := 0), List.take_length] at g3
        walk_at "z"
        refine ⟨_, _, _, _, _, _, _, rfl, gr3, ?_⟩
        rw [g3]
        simp [prsF]
    · rintro σ S2 ⟨p, o1, o4, o5, o6, o7, o8, rfl, gr2, g2⟩
      rw [← List.length_zipIdx (l := h.1) (i := 0), List.take_length] at g2
      walk_at "z"
      exact ⟨_, _, _, _, _, _, _, rfl, gr2, g2⟩
  rintro σ S2 ⟨p, o1, o4, o5, o6, o7, o8, rfl, gr2, g2⟩
  refine ws_cut (fun σ S3 => σ = [some (dHist h), o1, some (.tup (h.1.map dThing)), some (.loc p), o4, o5, o6, o7, o8, none] ∧ Gr S2 S3) ?_ ?_
  · walk_at "z"
    refine (s_turned_pairs OH).use ?_
    rintro d S3 ⟨rfl, gr3⟩
    walk_at "z"
    refine z_tupL (gr3.get g2) ?_
    walk_at "z"
    refine z_ne pd_nps pd_nps ?_
    rw [eqv_nps]
    walk_at "z"
    refine (s_turned_pairs OH).use ?_
    rintro d S4 ⟨rfl, gr4⟩
    walk_at "z"
    refine z_tupL (gr4.get (gr3.get g2)) ?_
    walk_at "z"
    refine z_ne pd_nps pd_nps ?_
    rw [eqv_nps]
    walk_at "z"
    exact ⟨by trivial, gr3.trans gr4⟩
  rintro σ S3 ⟨rfl, gr3⟩
  have g3 := gr3.get g2
  refine ws_cut (fun σ S4 => ∃ o4 o6 : Option D, σ = [some (dHist h), o1, some (.tup (h.1.map dThing)), some (.loc p), o4, o5, o6, o7, o8, none] ∧ Gr S3 S4) ?_ ?_
  · walk_at "z"
    refine z_itL g3 ?_
    refine for_L (as := prs h.1) (e := dNP) (fun i σ S4 => ∃ o4 o6 : Option D, σ = [some (dHist h), o1, some (.tup (h.1.map dThing)), some (.loc p), o4, o5, o6, o7, o8, none] ∧ Gr S3 S4) (fun i σ S4 hh => by obtain ⟨_, _, _, gr⟩ := hh; exact gr.get g3) ⟨_, _, rfl, Gx.refl _ _⟩ ?_ ?_
    · rintro i a σ S4 ha ⟨o4, o6, rfl, gr4⟩
      have hap : a ∈ prs h.1 := List.mem_of_getElem? ha
      have g4 := gr4.get g3
      walk_at "z"
      refine z_itL g4 ?_
      refine lc_L (as := prs h.1) (e := dNP) g4 (fun _ => false) (fun _ => .int 1) (szl (by omega)) (fun b hb S5 gr5 => ?_) (fun S5 gr5 hn5 g5 => ?_)
      · walk_at "z"
        have e1 : ((0 + (b.1 : Int)) == (0 + (a.2 : Int))) = (b.1 == a.2) := by
          rw [Bool.eq_iff_iff, beq_iff_eq, beq_iff_eq]; omega
        show wQ ((0 + (b.1 : Int)) == (0 + (a.2 : Int))) _ _
        rw [e1]
        refine wQ_c (fun q => ?_) (fun q => ?_)
        · simp only [beq_iff_eq] at q
          walk_at "z"
          refine z_notIn (pd_np (a.1, b.2)) (pd_npl (gr5.get g4)) rfl ?_
          have hm : (a.1, b.2) ∈ prs h.1 := by
            refine prs_iff.mpr (rt_trans ok (prs_iff.mp hap) ?_)
            rw [← q]
            exact prs_iff.mp hb
          have e2 : ((prs h.1).map pNP).any (fun z => PyData.eqv z (pNP (a.1, b.2))) = true := by
            rw [List.any_eq_true]
            exact ⟨_, List.mem_map.mpr ⟨_, hm, rfl⟩, by rw [eqv_np]; simp⟩
          rw [e2]
          walk_at "z"
          exact ⟨rfl, Gx.refl _ _, fun z => by cases z⟩
        · exact ⟨rfl, Gx.refl _ _, fun z => by cases z⟩
      · rw [List.filter_eq_nil_iff.mpr (by simp)] at g5
        walk_at "z"
        refine z_ne (pd_loc (ps := []) ((Sto.get_push_lt (Sto.lt_of g5)).trans g5) rfl) (pd_loc (ps := []) (Sto.get_push _ _) rfl) ?_
        walk_at "z"
        exact ⟨_, _, rfl, (gr4.trans gr5).push _⟩
    · rintro σ S4 ⟨o4, o6, rfl, gr4⟩
      walk_at "z"
      exact ⟨_, _, rfl, gr4⟩
  rintro σ S4 ⟨o4', o6', rfl, gr4⟩
  refine ws_cut (fun σ S5 => σ = [some (dHist h), some (.tup ((erls h.1).map dI)), some (.tup (h.1.map dThing)), some (.loc p), o4', o5, o6', o7, o8, none] ∧ Gr S4 S5) ?_ ?_
  · walk_at "z"
    rw [enum_ty]
    refine lc_F (as := h.1.zipIdx) (fun q => erl q.1) (fun q => dI q.2) (szl (by rw [List.length_zipIdx]; omega)) (fun q hq S5 gr5 => ?_) (fun S5 gr5 hn5 g5 => ?_)
    · walk_at "z"
      refine s_learly.use ?_
      rintro d S6 ⟨rfl, rfl⟩
      refine ⟨_, rfl, rfl, Gx.refl _ _, fun _ => ?_⟩
      walk_at "z"
      exact ⟨rfl, Gx.refl _ _⟩
    · walk_at "z"
      have e : ((h.1.zipIdx.filter fun q => erl q.1).map fun q => dI q.2) = (erls h.1).map dI := by unfold erls; rw [List.map_map]; rfl
      rw [e] at g5
      refine z_tupL g5 ?_
      walk_at "z"
      exact ⟨by trivial, gr5⟩
  rintro σ S5 ⟨rfl, gr5⟩
  refine ws_cut (fun σ S6 => σ = [some (dHist h), some (.tup ((erls h.1).map dI)), some (.tup (h.1.map dThing)), some (.loc p), o4', o5, o6', o7, o8, none] ∧ Gr S5 S6) ?_ ?_
  · walk_at "z"
    refine (s_early OH).use ?_
    rintro d S6 ⟨rfl, gr6⟩
    walk_at "z"
    refine z_ne pd_is pd_is ?_
    rw [eqv_is]
    walk_at "z"
    refine (s_early OH).use ?_
    rintro d S7 ⟨rfl, gr7⟩
    walk_at "z"
    refine z_ne pd_is pd_is ?_
    rw [eqv_is]
    walk_at "z"
    exact ⟨by trivial, gr6.trans gr7⟩
  rintro σ S6 ⟨rfl, gr6⟩
  walk_at "z"
  refine (s_longest_to OH).use ?_
  rintro d S7 ⟨rfl, gr7⟩
  walk_at "z"
  refine (s_levels (by omega) ok).use ?_
  rintro d S8 ⟨rfl, gr8⟩
  walk_at "z"
  refine z_eq pd_its pd_its ?_
  rw [eqv_its]
  walk_at "z"
  refine (s_longest_to OH).use ?_
  rintro d S9 ⟨rfl, gr9⟩
  walk_at "z"
  refine (s_levels (by omega) ok).use ?_
  rintro d S10 ⟨rfl, gr10⟩
  walk_at "z"
  refine z_eq pd_its pd_its ?_
  rw [eqv_its]
  walk_at "z"
  exact ⟨rfl, ((((((gr2.trans gr3).trans gr4).trans gr5).trans gr6).trans gr7).trans gr8).trans (gr9.trans gr10)⟩
/-! by hand -/
def tsA : List Thg := (List.range 12).map fun (i : Nat) => ((2 * (0 + (i : Int)), 2 * (0 + (i : Int))), some (50 - 2 * (0 + (i : Int)), 50 - 2 * (0 + (i : Int))))
def hA : Hst := (tsA, [])
def hB : Hst := ([((0, 3), some (4, 5)), ((3, 6), some (1, 2)), ((4, 9), none)], [])
theorem okA : OkH hA := ⟨by decide +kernel, by decide +kernel, by decide +kernel, by decide +kernel⟩
theorem okB : OkH hB := ⟨by decide, by decide, by decide, by decide⟩
theorem lv0 : lvl tsA 0 = [1, 1, 1, 1, 1, 1, 1, 1, 1, 1, 1, 1] := by decide +kernel
theorem lvS {r : Nat} {L L' : List Int} (h : lvl tsA r = L) (e : stL tsA L = L') : lvl tsA (r + 1) = L' := by
  show stL tsA (lvl tsA r) = L'
  rw [h, e]
theorem lvA : lvl tsA 12 = [1, 2, 3, 4, 5, 6, 7, 8, 9, 10, 11, 12] := by
  have h1 := lvS lv0 (L' := [1, 2, 2, 2, 2, 2, 2, 2, 2, 2, 2, 2]) (by decide +kernel)
  have h2 := lvS h1 (L' := [1, 2, 3, 3, 3, 3, 3, 3, 3, 3, 3, 3]) (by decide +kernel)
  have h3 := lvS h2 (L' := [1, 2, 3, 4, 4, 4, 4, 4, 4, 4, 4, 4]) (by decide +kernel)
  have h4 := lvS h3 (L' := [1, 2, 3, 4, 5, 5, 5, 5, 5, 5, 5, 5]) (by decide +kernel)
  have h5 := lvS h4 (L' := [1, 2, 3, 4, 5, 6, 6, 6, 6, 6, 6, 6]) (by decide +kernel)
  have h6 := lvS h5 (L' := [1, 2, 3, 4, 5, 6, 7, 7, 7, 7, 7, 7]) (by decide +kernel)
  have h7 := lvS h6 (L' := [1, 2, 3, 4, 5, 6, 7, 8, 8, 8, 8, 8]) (by decide +kernel)
  have h8 := lvS h7 (L' := [1, 2, 3, 4, 5, 6, 7, 8, 9, 9, 9, 9]) (by decide +kernel)
  have h9 := lvS h8 (L' := [1, 2, 3, 4, 5, 6, 7, 8, 9, 10, 10, 10]) (by decide +kernel)
  have h10 := lvS h9 (L' := [1, 2, 3, 4, 5, 6, 7, 8, 9, 10, 11, 11]) (by decide +kernel)
  have h11 := lvS h10 (L' := [1, 2, 3, 4, 5, 6, 7, 8, 9, 10, 11, 12]) (by decide +kernel)
  exact lvS h11 (by decide +kernel)
theorem prA : (prs tsA).length = 66 := by decide +kernel
theorem rgA : rgD 1 13 = ([1, 2, 3, 4, 5, 6, 7, 8, 9, 10, 11, 12] : List Int).map .int := rfl
theorem s_law {ns : List Int} (hn : ns.length ≤ 63) : wp (callZ bs (k + 9) i_law [.scr ns]) S (fun d _ => d = .bl true) noX := by
  refine call_go (b := b_law) rfl rfl rfl ?_
  unfold b_law
  walk_at "zc"
  refine (s_begin hn).use ?_
  rintro d S1 ⟨z, rfl, w1, g1, _⟩
  walk_at "z"
  refine for_rng (fun i σ S2 => ∃ o2 : Option D, σ = [some (.scr ns), some (.loc z.st), o2, none, none, none] ∧ Dw z (10000 * i) S2) ⟨_, rfl, w1.mono (by omega)⟩ ?_ ?_
  · rintro i σ S2 hi ⟨o2, rfl, w2⟩
    walk_at "z"
    refine (s_history w2 (by omega) (by omega) (by omega) (by omega) (by omega)).use ?_
    rintro d S3 ⟨h, rfl, H, w3, g3⟩
    walk_at "z"
    refine (s_history_right H).use ?_
    rintro d S4 ⟨rfl, g4⟩
    walk_at "z"
    exact ⟨_, rfl, (w3.keep g4).mono (by omega)⟩
  · rintro σ S2 ⟨o2, rfl, w2⟩
    clear w2
    walk_at "z"
    refine lc_R1 (fun i => dThing ((2 * (0 + (i : Int)), 2 * (0 + (i : Int))), some (50 - 2 * (0 + (i : Int)), 50 - 2 * (0 + (i : Int))))) (szl (by decide)) (fun i hi S3 gr3 => ?_) (fun S3 gr3 hn3 g3 => ?_)
    · walk_at "z"
      exact ⟨rfl, Gx.refl _ _⟩
    walk_at "z"
    refine z_tupL g3 ?_
    have e3 : ((List.range (Int.toNat 12)).map fun i : Nat => dThing ((2 * (0 + (i : Int)), 2 * (0 + (i : Int))), some (50 - 2 * (0 + (i : Int)), 50 - 2 * (0 + (i : Int))))) = tsA.map dThing := by
      unfold tsA
      rw [List.map_map]; rfl
    rw [e3]
    walk_at "z"
    refine (s_longest_to (k := k + 2) (h := hA) okA).use ?_
    rintro d S4 ⟨rfl, g4⟩
    rw [show lvl hA.1 hA.1.length = [1, 2, 3, 4, 5, 6, 7, 8, 9, 10, 11, 12] from lvA]
    walk_at "z"
    refine z_tupR2 (by omega) ?_
    rw [rgA]
    walk_at "z"
    refine (s_turned_pairs (k := k + 2) (h := hA) okA).use ?_
    rintro d S5 ⟨rfl, g5⟩
    walk_at "z"
    refine (s_early (k := k + 2) (h := hB) okB).use ?_
    rintro d S6 ⟨rfl, g6⟩
    rw [show erls hB.1 = [1] by decide +kernel]
    walk_at "z"
    refine (s_turned_pairs (k := k + 2) (h := hB) okB).use ?_
    rintro d S7 ⟨rfl, g7⟩
    rw [show prs hB.1 = [] by decide +kernel]
    walk_at "z"
    refine (s_is_out (k := k + 1) (h := hB) okB (i := 1) (j := 0) rfl rfl).use ?_
    rintro d S8 ⟨rfl, g8⟩
    walk_at "z"
    refine (s_is_in (k := k + 1) (h := hB) okB (i := 0) (j := 2) rfl rfl).use ?_
    rintro d S9 ⟨rfl, g9⟩
    walk_at "z"
    rfl
theorem law_ok (ns : List Int) (hn : ns.length ≤ 63) (_ : ∀ z ∈ ns, Builtin.Int.intBits z ≤ 1048576) : ∃ S, callZ bs 12 i_law [.scr ns] ⟨[], 0⟩ = .ok (.bl true) S := by
  obtain ⟨d, S', e, rfl⟩ := (s_law (k := 3) (S := ⟨[], 0⟩) hn).ok
  exact ⟨S', e⟩
end
end L2.Z.Lw

set_option Elab.async false
set_option linter.all false
set_option maxRecDepth 100000
set_option maxHeartbeats 4000000
/-! the derivations -/
namespace L2.Z.Lw
open PySem PySem.Spec PyProof.Rows
variable [HasT]
def top (i : Nat) : Stmt := PySem.Challenge.pw_fewqueues_k03_whole_turns.main.body.getD i (.Pass ⟨0, 0, 0, 0⟩)
structure Tx (P : Program) (w : World) (K : PySem.W.Frag) (mg : Str → Option Value) (base : Heap) : Prop where
  f_all : mg "all" = none
  f_bool : mg "bool" = none
  f_dict : mg "dict" = none
  f_enumerate : mg "enumerate" = none
  f_int : mg "int" = none
  f_isinstance : mg "isinstance" = none
  f_len : mg "len" = none
  f_list : mg "list" = none
  f_max : mg "max" = none
  f_range : mg "range" = none
  f_sorted : mg "sorted" = none
  f_tuple : mg "tuple" = none
  g_MOST_TICK : ∃ t, mg "MOST_TICK" = some (.int 1000000000 t)
  g_MOST_THINGS : ∃ t, mg "MOST_THINGS" = some (.int 12 t)
  g_MOST_EMPTIES : ∃ t, mg "MOST_EMPTIES" = some (.int 8 t)
  g_FORM : ∃ t, mg "FORM" = some (.str "form" t)
  g_THINGS : ∃ t, mg "THINGS" = some (.str "things" t)
  g_THING : ∃ t, mg "THING" = some (.str "thing" t)
  g_EMPTIES : ∃ t, mg "EMPTIES" = some (.str "empties" t)
  g_EMPTY : ∃ t, mg "EMPTY" = some (.str "empty" t)
  sub : SubOk K subT
  x_BadHistory : KX P w K mg base "BadHistory" ["part"]
  x_BadNumber : KX P w K mg base "BadNumber" ["given"]
  m_0 : mg "is_integer" = some (.ref (He.ga K "is_integer"))
  d_0 : ∃ fd, FunD K "is_integer" "is_integer" (defArgs (top 13)) (defBody (top 13)) (defScope (top 13)) [] [] (He.ga K "is_integer") fd ∧ Binds K fd ["thing"] []
  m_1 : mg "is_between" = some (.ref (He.ga K "is_between"))
  d_1 : ∃ fd, FunD K "is_between" "is_between" (defArgs (top 14)) (defBody (top 14)) (defScope (top 14)) [] [] (He.ga K "is_between") fd ∧ Binds K fd ["thing", "least", "most"] []
  m_2 : mg "is_call" = some (.ref (He.ga K "is_call"))
  d_2 : ∃ fd, FunD K "is_call" "is_call" (defArgs (top 15)) (defBody (top 15)) (defScope (top 15)) [] [] (He.ga K "is_call") fd ∧ Binds K fd ["thing"] []
  m_3 : mg "is_thing" = some (.ref (He.ga K "is_thing"))
  d_3 : ∃ fd, FunD K "is_thing" "is_thing" (defArgs (top 16)) (defBody (top 16)) (defScope (top 16)) [] [] (He.ga K "is_thing") fd ∧ Binds K fd ["value"] []
  m_4 : mg "need_history" = some (.ref (He.ga K "need_history"))
  d_4 : ∃ fd, FunD K "need_history" "need_history" (defArgs (top 17)) (defBody (top 17)) (defScope (top 17)) [] [] (He.ga K "need_history") fd ∧ Binds K fd ["thing"] []
  m_5 : mg "need_number_of" = some (.ref (He.ga K "need_number_of"))
  d_5 : ∃ fd, FunD K "need_number_of" "need_number_of" (defArgs (top 18)) (defBody (top 18)) (defScope (top 18)) [] [] (He.ga K "need_number_of") fd ∧ Binds K fd ["history", "one"] []
  m_6 : mg "is_in_ahead" = some (.ref (He.ga K "is_in_ahead"))
  d_6 : ∃ fd, FunD K "is_in_ahead" "is_in_ahead" (defArgs (top 20)) (defBody (top 20)) (defScope (top 20)) [] [] (He.ga K "is_in_ahead") fd ∧ Binds K fd ["near", "far"] []
  m_7 : mg "is_out_ahead" = some (.ref (He.ga K "is_out_ahead"))
  d_7 : ∃ fd, FunD K "is_out_ahead" "is_out_ahead" (defArgs (top 21)) (defBody (top 21)) (defScope (top 21)) [] [] (He.ga K "is_out_ahead") fd ∧ Binds K fd ["near", "far"] []
  m_8 : mg "is_turned_with" = some (.ref (He.ga K "is_turned_with"))
  d_8 : ∃ fd, FunD K "is_turned_with" "is_turned_with" (defArgs (top 22)) (defBody (top 22)) (defScope (top 22)) [] [] (He.ga K "is_turned_with") fd ∧ Binds K fd ["near", "far"] []
  m_9 : mg "is_early" = some (.ref (He.ga K "is_early"))
  d_9 : ∃ fd, FunD K "is_early" "is_early" (defArgs (top 23)) (defBody (top 23)) (defScope (top 23)) [] [] (He.ga K "is_early") fd ∧ Binds K fd ["thing"] []
  m_10 : mg "need_two" = some (.ref (He.ga K "need_two"))
  d_10 : ∃ fd, FunD K "need_two" "need_two" (defArgs (top 24)) (defBody (top 24)) (defScope (top 24)) [] [] (He.ga K "need_two") fd ∧ Binds K fd ["history", "one", "other"] []
  m_11 : mg "is_in" = some (.ref (He.ga K "is_in"))
  d_11 : ∃ fd, FunD K "is_in" "is_in" (defArgs (top 25)) (defBody (top 25)) (defScope (top 25)) [] [] (He.ga K "is_in") fd ∧ Binds K fd ["history", "one", "other"] []
  m_12 : mg "is_out" = some (.ref (He.ga K "is_out"))
  d_12 : ∃ fd, FunD K "is_out" "is_out" (defArgs (top 26)) (defBody (top 26)) (defScope (top 26)) [] [] (He.ga K "is_out") fd ∧ Binds K fd ["history", "one", "other"] []
  m_13 : mg "is_turned" = some (.ref (He.ga K "is_turned"))
  d_13 : ∃ fd, FunD K "is_turned" "is_turned" (defArgs (top 27)) (defBody (top 27)) (defScope (top 27)) [] [] (He.ga K "is_turned") fd ∧ Binds K fd ["history", "one", "other"] []
  m_14 : mg "pairs_in" = some (.ref (He.ga K "pairs_in"))
  d_14 : ∃ fd, FunD K "pairs_in" "pairs_in" (defArgs (top 28)) (defBody (top 28)) (defScope (top 28)) [] [] (He.ga K "pairs_in") fd ∧ Binds K fd ["things"] []
  m_15 : mg "turned_pairs" = some (.ref (He.ga K "turned_pairs"))
  d_15 : ∃ fd, FunD K "turned_pairs" "turned_pairs" (defArgs (top 29)) (defBody (top 29)) (defScope (top 29)) [] [] (He.ga K "turned_pairs") fd ∧ Binds K fd ["history"] []
  m_16 : mg "early_in" = some (.ref (He.ga K "early_in"))
  d_16 : ∃ fd, FunD K "early_in" "early_in" (defArgs (top 30)) (defBody (top 30)) (defScope (top 30)) [] [] (He.ga K "early_in") fd ∧ Binds K fd ["things"] []
  m_17 : mg "early" = some (.ref (He.ga K "early"))
  d_17 : ∃ fd, FunD K "early" "early" (defArgs (top 31)) (defBody (top 31)) (defScope (top 31)) [] [] (He.ga K "early") fd ∧ Binds K fd ["history"] []
  m_18 : mg "levels_in" = some (.ref (He.ga K "levels_in"))
  d_18 : ∃ fd, FunD K "levels_in" "levels_in" (defArgs (top 32)) (defBody (top 32)) (defScope (top 32)) [] [] (He.ga K "levels_in") fd ∧ Binds K fd ["things"] []
  m_19 : mg "longest_to" = some (.ref (He.ga K "longest_to"))
  d_19 : ∃ fd, FunD K "longest_to" "longest_to" (defArgs (top 33)) (defBody (top 33)) (defScope (top 33)) [] [] (He.ga K "longest_to") fd ∧ Binds K fd ["history"] []
  m_20 : mg "_law_mixed" = some (.ref (He.ga K "_law_mixed"))
  d_20 : ∃ fd, FunD K "_law_mixed" "_law_mixed" (defArgs (top 35)) (defBody (top 35)) (defScope (top 35)) [] [] (He.ga K "_law_mixed") fd ∧ Binds K fd ["_law_cell", "_law_k"] []
  m_21 : mg "_law_begin" = some (.ref (He.ga K "_law_begin"))
  d_21 : ∃ fd, FunD K "_law_begin" "_law_begin" (defArgs (top 36)) (defBody (top 36)) (defScope (top 36)) [] [] (He.ga K "_law_begin") fd ∧ Binds K fd ["_law_script"] []
  m_22 : mg "_law_draw" = some (.ref (He.ga K "_law_draw"))
  d_22 : ∃ fd, FunD K "_law_draw" "_law_draw" (defArgs (top 37)) (defBody (top 37)) (defScope (top 37)) [] [] (He.ga K "_law_draw") fd ∧ Binds K fd ["_law_state", "_law_many"] []
  m_23 : mg "_law_of" = some (.ref (He.ga K "_law_of"))
  d_23 : ∃ fd, FunD K "_law_of" "_law_of" (defArgs (top 38)) (defBody (top 38)) (defScope (top 38)) [] [] (He.ga K "_law_of") fd ∧ Binds K fd ["_law_state", "_law_some"] []
  m_24 : mg "_law_in" = some (.ref (He.ga K "_law_in"))
  d_24 : ∃ fd, FunD K "_law_in" "_law_in" (defArgs (top 39)) (defBody (top 39)) (defScope (top 39)) [] [] (He.ga K "_law_in") fd ∧ Binds K fd ["_law_near", "_law_far"] []
  m_25 : mg "_law_out" = some (.ref (He.ga K "_law_out"))
  d_25 : ∃ fd, FunD K "_law_out" "_law_out" (defArgs (top 40)) (defBody (top 40)) (defScope (top 40)) [] [] (He.ga K "_law_out") fd ∧ Binds K fd ["_law_near", "_law_far"] []
  m_26 : mg "_law_turned" = some (.ref (He.ga K "_law_turned"))
  d_26 : ∃ fd, FunD K "_law_turned" "_law_turned" (defArgs (top 41)) (defBody (top 41)) (defScope (top 41)) [] [] (He.ga K "_law_turned") fd ∧ Binds K fd ["_law_near", "_law_far"] []
  m_27 : mg "_law_early" = some (.ref (He.ga K "_law_early"))
  d_27 : ∃ fd, FunD K "_law_early" "_law_early" (defArgs (top 42)) (defBody (top 42)) (defScope (top 42)) [] [] (He.ga K "_law_early") fd ∧ Binds K fd ["_law_thing"] []
  m_28 : mg "_law_lot_right" = some (.ref (He.ga K "_law_lot_right"))
  d_28 : ∃ fd, FunD K "_law_lot_right" "_law_lot_right" (defArgs (top 43)) (defBody (top 43)) (defScope (top 43)) [] [] (He.ga K "_law_lot_right") fd ∧ Binds K fd ["_law_some"] []
  m_29 : mg "_law_call" = some (.ref (He.ga K "_law_call"))
  d_29 : ∃ fd, FunD K "_law_call" "_law_call" (defArgs (top 44)) (defBody (top 44)) (defScope (top 44)) [] [] (He.ga K "_law_call") fd ∧ Binds K fd ["_law_state", "_law_tick", "_law_most"] []
  m_30 : mg "_law_queued" = some (.ref (He.ga K "_law_queued"))
  d_30 : ∃ fd, FunD K "_law_queued" "_law_queued" (defArgs (top 45)) (defBody (top 45)) (defScope (top 45)) [] [] (He.ga K "_law_queued") fd ∧ Binds K fd ["_law_state", "_law_many", "_law_queues", "_law_most"] []
  m_31 : mg "_law_things" = some (.ref (He.ga K "_law_things"))
  d_31 : ∃ fd, FunD K "_law_things" "_law_things" (defArgs (top 46)) (defBody (top 46)) (defScope (top 46)) [] [] (He.ga K "_law_things") fd ∧ Binds K fd ["_law_state", "_law_many"] []
  m_32 : mg "_law_history" = some (.ref (He.ga K "_law_history"))
  d_32 : ∃ fd, FunD K "_law_history" "_law_history" (defArgs (top 47)) (defBody (top 47)) (defScope (top 47)) [] [] (He.ga K "_law_history") fd ∧ Binds K fd ["_law_state", "_law_many", "_law_few"] []
  m_33 : mg "_law_levels" = some (.ref (He.ga K "_law_levels"))
  d_33 : ∃ fd, FunD K "_law_levels" "_law_levels" (defArgs (top 48)) (defBody (top 48)) (defScope (top 48)) [] [] (He.ga K "_law_levels") fd ∧ Binds K fd ["_law_things_here"] []
  m_34 : mg "_law_history_right" = some (.ref (He.ga K "_law_history_right"))
  d_34 : ∃ fd, FunD K "_law_history_right" "_law_history_right" (defArgs (top 49)) (defBody (top 49)) (defScope (top 49)) [] [] (He.ga K "_law_history_right") fd ∧ Binds K fd ["_law_history_here"] []
  m_35 : mg "law" = some (.ref (He.ga K "law"))
  d_35 : ∃ fd, FunD K "law" "law" (defArgs (top 50)) (defBody (top 50)) (defScope (top 50)) [] [] (He.ga K "law") fd ∧ Binds K fd ["_law_script"] []
def tabL : List (Option (Str × Nat)) := ([some ("is_integer", 1), some ("is_between", 3), some ("is_call", 1), some ("is_thing", 1), some ("need_history", 1), some ("need_number_of", 2), some ("is_in_ahead", 2), some ("is_out_ahead", 2), some ("is_turned_with", 2), some ("is_early", 1), some ("need_two", 3), some ("is_in", 3), some ("is_out", 3), some ("is_turned", 3), some ("pairs_in", 1), some ("turned_pairs", 1), some ("early_in", 1), some ("early", 1), some ("levels_in", 1), some ("longest_to", 1)] : List (Option (Str × Nat))) ++ ([some ("_law_mixed", 2), some ("_law_begin", 1), some ("_law_draw", 2), some ("_law_of", 2), some ("_law_in", 2), some ("_law_out", 2), some ("_law_turned", 2), some ("_law_early", 1), some ("_law_lot_right", 1), some ("_law_call", 3), some ("_law_queued", 4), some ("_law_things", 2), some ("_law_history", 3), some ("_law_levels", 1), some ("_law_history_right", 1), some ("law", 1)] : List (Option (Str × Nat)))
def tab (i : Nat) : Option (Str × Nat) := tabL.getD i none
def N_0 : List Str := ["thing"]
theorem sc_0 : FnScope N_0 ["thing"] (defScope (top 13)) := ⟨rfl, rfl, rfl, by decide +kernel, rfl, by decide +kernel, by decide +kernel⟩
theorem nm_0 : NmOk N_0 := by unfold NmOk; decide +kernel
theorem q_0 {P : Program} {w : World} {K : PySem.W.Frag} {mg : Str → Option Value} {base : Heap} {f : Addr} {cdv : Value} {A : Around} {outer : List PySem.Env} {s : Shared} {H : Hp} {E : XK} {k : Nat} {c : Orc} (T : Tx P w K mg base) (KA : KnAll P w K mg base tab k c) (hr : Room (k + 4) (A.deeper (envOfC "is_integer" (defScope (top 13)) s.heap.objs.size f cdv))) :
    QSs (cxOf (L2.CX P w) P w K mg base N_0 "is_integer" (defScope (top 13)) f cdv A outer s H E) (defBody (top 13)) (b_is_integer c) := by
  have nd := sc_0.nd
  have nm := nm_0
  have hk := hr.mono (Nat.le_add_right k 4)
  exact qss_one (qs_ret (q_and (q_isi .int T.f_isinstance T.f_int bt_int (q_var 0 nm)) (q_one (q_not (q_isi .bool T.f_isinstance T.f_bool bt_bool (q_var 0 nm))))))
theorem kn_0 {P : Program} {w : World} {K : PySem.W.Frag} {mg : Str → Option Value} {base : Heap} {k : Nat} {c : Orc} (T : Tx P w K mg base) (KA : KnAll P w K mg base tab k c) : Kn P w K mg base (k + 5) "is_integer" 1 (runZ 1 1 (b_is_integer c)) := by
  obtain ⟨fd, F, hb⟩ := T.d_0
  exact ⟨⟨_, fd, ["thing"], rfl, fn_z (N := N_0) F sc_0 rfl (fun cdv A outer s H E hr => q_0 T KA hr), T.m_0, F.kp, hb⟩, ary_runZ⟩
theorem kz_0 {P : Program} {w : World} {K : PySem.W.Frag} {mg : Str → Option Value} {base : Heap} (T : Tx P w K mg base) : Kn P w K mg base 0 "is_integer" 1 (fun _ => bad) := by
  obtain ⟨fd, F, hb⟩ := T.d_0
  exact ⟨⟨_, fd, ["thing"], rfl, fn_z0 rfl, T.m_0, F.kp, hb⟩, fun _ _ _ => rfl⟩
def N_1 : List Str := ["thing", "least", "most"]
theorem sc_1 : FnScope N_1 ["thing", "least", "most"] (defScope (top 14)) := ⟨rfl, rfl, rfl, by decide +kernel, rfl, by decide +kernel, by decide +kernel⟩
theorem nm_1 : NmOk N_1 := by unfold NmOk; decide +kernel
theorem q_1 {P : Program} {w : World} {K : PySem.W.Frag} {mg : Str → Option Value} {base : Heap} {f : Addr} {cdv : Value} {A : Around} {outer : List PySem.Env} {s : Shared} {H : Hp} {E : XK} {k : Nat} {c : Orc} (T : Tx P w K mg base) (KA : KnAll P w K mg base tab k c) (hr : Room (k + 4) (A.deeper (envOfC "is_between" (defScope (top 14)) s.heap.objs.size f cdv))) :
    QSs (cxOf (L2.CX P w) P w K mg base N_1 "is_between" (defScope (top 14)) f cdv A outer s H E) (defBody (top 14)) (b_is_between c) := by
  have nd := sc_1.nd
  have nm := nm_1
  have hk := hr.mono (Nat.le_add_right k 4)
  exact qss_one (qs_ret (q_and (q_call (KA 0 "is_integer" 1 rfl) hk (qa_cons (q_var 0 nm) (qa_nil))) (q_one (q_chain r_le r_le (q_var 1 nm) (q_var 0 nm) (q_var 2 nm) (by rfl)))))
theorem kn_1 {P : Program} {w : World} {K : PySem.W.Frag} {mg : Str → Option Value} {base : Heap} {k : Nat} {c : Orc} (T : Tx P w K mg base) (KA : KnAll P w K mg base tab k c) : Kn P w K mg base (k + 5) "is_between" 3 (runZ 3 3 (b_is_between c)) := by
  obtain ⟨fd, F, hb⟩ := T.d_1
  exact ⟨⟨_, fd, ["thing", "least", "most"], rfl, fn_z (N := N_1) F sc_1 rfl (fun cdv A outer s H E hr => q_1 T KA hr), T.m_1, F.kp, hb⟩, ary_runZ⟩
theorem kz_1 {P : Program} {w : World} {K : PySem.W.Frag} {mg : Str → Option Value} {base : Heap} (T : Tx P w K mg base) : Kn P w K mg base 0 "is_between" 3 (fun _ => bad) := by
  obtain ⟨fd, F, hb⟩ := T.d_1
  exact ⟨⟨_, fd, ["thing", "least", "most"], rfl, fn_z0 rfl, T.m_1, F.kp, hb⟩, fun _ _ _ => rfl⟩
def N_2 : List Str := ["thing", "tick"]
theorem sc_2 : FnScope N_2 ["thing"] (defScope (top 15)) := ⟨rfl, rfl, rfl, by decide +kernel, rfl, by decide +kernel, by decide +kernel⟩
theorem nm_2 : NmOk N_2 := by unfold NmOk; decide +kernel
theorem q_2 {P : Program} {w : World} {K : PySem.W.Frag} {mg : Str → Option Value} {base : Heap} {f : Addr} {cdv : Value} {A : Around} {outer : List PySem.Env} {s : Shared} {H : Hp} {E : XK} {k : Nat} {c : Orc} (T : Tx P w K mg base) (KA : KnAll P w K mg base tab k c) (hr : Room (k + 4) (A.deeper (envOfC "is_call" (defScope (top 15)) s.heap.objs.size f cdv))) :
    QSs (cxOf (L2.CX P w) P w K mg base N_2 "is_call" (defScope (top 15)) f cdv A outer s H E) (defBody (top 15)) (b_is_call c) := by
  have nd := sc_2.nd
  have nm := nm_2
  have hk := hr.mono (Nat.le_add_right k 4)
  exact qss_cons (qs_if ((qw_or (qt_not (qt_val (q_isi .tuple T.f_isinstance T.f_tuple bt_tuple (q_var 0 nm)))) (qw_or1 (qt_cmp (b_fPD _) (r_ne hr) (q_callB c_len T.f_len bb_len (qa_cons (q_var 0 nm) (qa_nil))) (q_int) (nomark _)))).t) (qss_one (qs_ret (q_bl))) (qss_nil)) (qss_one (qs_ret (q_and (q_callB (c_all rfl) T.f_all bb_all (qa_cons (q_lc [("tick", 1)] rfl nd (qi_seq (q_var 0 nm)) (blkOk_by (by kernel_rfl)) (fun _ _ _ _ _ => qg_name 1 nd) (fun _ _ _ _ _ => qts_nil) (fun _ _ _ _ _ => q_call (KA 1 "is_between" 3 rfl) hk (qa_cons (q_var 1 nm) (qa_cons (q_op r_sub (q_int) (q_gint T.g_MOST_TICK)) (qa_cons (q_gint T.g_MOST_TICK) (qa_nil))))) (by decide)) (qa_nil))) (q_one (q_cmp r_le (q_ix hr (q_var 0 nm) (q_int)) (q_ix hr (q_var 0 nm) (q_int)) (nomark _))))))
theorem kn_2 {P : Program} {w : World} {K : PySem.W.Frag} {mg : Str → Option Value} {base : Heap} {k : Nat} {c : Orc} (T : Tx P w K mg base) (KA : KnAll P w K mg base tab k c) : Kn P w K mg base (k + 5) "is_call" 1 (runZ 1 2 (b_is_call c)) := by
  obtain ⟨fd, F, hb⟩ := T.d_2
  exact ⟨⟨_, fd, ["thing"], rfl, fn_z (N := N_2) F sc_2 rfl (fun cdv A outer s H E hr => q_2 T KA hr), T.m_2, F.kp, hb⟩, ary_runZ⟩
theorem kz_2 {P : Program} {w : World} {K : PySem.W.Frag} {mg : Str → Option Value} {base : Heap} (T : Tx P w K mg base) : Kn P w K mg base 0 "is_call" 1 (fun _ => bad) := by
  obtain ⟨fd, F, hb⟩ := T.d_2
  exact ⟨⟨_, fd, ["thing"], rfl, fn_z0 rfl, T.m_2, F.kp, hb⟩, fun _ _ _ => rfl⟩
def N_3 : List Str := ["value"]
theorem sc_3 : FnScope N_3 ["value"] (defScope (top 16)) := ⟨rfl, rfl, rfl, by decide +kernel, rfl, by decide +kernel, by decide +kernel⟩
theorem nm_3 : NmOk N_3 := by unfold NmOk; decide +kernel
theorem q_3 {P : Program} {w : World} {K : PySem.W.Frag} {mg : Str → Option Value} {base : Heap} {f : Addr} {cdv : Value} {A : Around} {outer : List PySem.Env} {s : Shared} {H : Hp} {E : XK} {k : Nat} {c : Orc} (T : Tx P w K mg base) (KA : KnAll P w K mg base tab k c) (hr : Room (k + 4) (A.deeper (envOfC "is_thing" (defScope (top 16)) s.heap.objs.size f cdv))) :
    QSs (cxOf (L2.CX P w) P w K mg base N_3 "is_thing" (defScope (top 16)) f cdv A outer s H E) (defBody (top 16)) (b_is_thing c) := by
  have nd := sc_3.nd
  have nm := nm_3
  have hk := hr.mono (Nat.le_add_right k 4)
  exact qss_cons (qs_if ((qw_or (qt_not (qt_val (q_isi .tuple T.f_isinstance T.f_tuple bt_tuple (q_var 0 nm)))) (qw_or (qt_cmp (b_fPD _) (r_ne hr) (q_callB c_len T.f_len bb_len (qa_cons (q_var 0 nm) (qa_nil))) (q_int) (nomark _)) (qw_or1 (qt_not (qt_val (q_call (KA 2 "is_call" 1 rfl) hk (qa_cons (q_ix hr (q_var 0 nm) (q_int)) (qa_nil)))))))).t) (qss_one (qs_ret (q_bl))) (qss_nil)) (qss_one (qs_ret (q_or (q_cmp r_is (q_ix hr (q_var 0 nm) (q_int)) (q_non) (nomark _)) (q_one (q_call (KA 2 "is_call" 1 rfl) hk (qa_cons (q_ix hr (q_var 0 nm) (q_int)) (qa_nil)))))))
theorem kn_3 {P : Program} {w : World} {K : PySem.W.Frag} {mg : Str → Option Value} {base : Heap} {k : Nat} {c : Orc} (T : Tx P w K mg base) (KA : KnAll P w K mg base tab k c) : Kn P w K mg base (k + 5) "is_thing" 1 (runZ 1 1 (b_is_thing c)) := by
  obtain ⟨fd, F, hb⟩ := T.d_3
  exact ⟨⟨_, fd, ["value"], rfl, fn_z (N := N_3) F sc_3 rfl (fun cdv A outer s H E hr => q_3 T KA hr), T.m_3, F.kp, hb⟩, ary_runZ⟩
theorem kz_3 {P : Program} {w : World} {K : PySem.W.Frag} {mg : Str → Option Value} {base : Heap} (T : Tx P w K mg base) : Kn P w K mg base 0 "is_thing" 1 (fun _ => bad) := by
  obtain ⟨fd, F, hb⟩ := T.d_3
  exact ⟨⟨_, fd, ["value"], rfl, fn_z0 rfl, T.m_3, F.kp, hb⟩, fun _ _ _ => rfl⟩
def N_4 : List Str := ["thing", "things", "empties", "number", "one"]
theorem sc_4 : FnScope N_4 ["thing"] (defScope (top 17)) := ⟨rfl, rfl, rfl, by decide +kernel, rfl, by decide +kernel, by decide +kernel⟩
theorem nm_4 : NmOk N_4 := by unfold NmOk; decide +kernel
theorem q_4 {P : Program} {w : World} {K : PySem.W.Frag} {mg : Str → Option Value} {base : Heap} {f : Addr} {cdv : Value} {A : Around} {outer : List PySem.Env} {s : Shared} {H : Hp} {E : XK} {k : Nat} {c : Orc} (T : Tx P w K mg base) (KA : KnAll P w K mg base tab k c) (hr : Room (k + 4) (A.deeper (envOfC "need_history" (defScope (top 17)) s.heap.objs.size f cdv))) :
    QSs (cxOf (L2.CX P w) P w K mg base N_4 "need_history" (defScope (top 17)) f cdv A outer s H E) (defBody (top 17)) (b_need_history c) := by
  have nd := sc_4.nd
  have nm := nm_4
  have hk := hr.mono (Nat.le_add_right k 4)
  exact qss_cons (qs_if ((qw_or (qt_not (qt_val (q_isi .tuple T.f_isinstance T.f_tuple bt_tuple (q_var 0 nm)))) (qw_or1 (qt_cmp (b_fPD _) (r_ne hr) (q_callB c_len T.f_len bb_len (qa_cons (q_var 0 nm) (qa_nil))) (q_int) (nomark _)))).t) (qss_one (qs_raise T.x_BadHistory hr (by omega) rfl (qa_cons (q_gstr T.g_FORM) (qa_nil)))) (qss_nil)) (qss_cons (qs_asg (q_var 0 nm) (qg_tup rfl (qgs_cons (qg_name 1 nd) (qgs_cons (qg_name 2 nd) (qgs_nil))) (gl_cons (gl_cons (gl_nil))))) (qss_cons (qs_if ((qw_or (qt_not (qt_val (q_isi .tuple T.f_isinstance T.f_tuple bt_tuple (q_var 1 nm)))) (qw_or1 (qt_cmp b_gt r_gt (q_callB c_len T.f_len bb_len (qa_cons (q_var 1 nm) (qa_nil))) (q_gint T.g_MOST_THINGS) (nomark _)))).t) (qss_one (qs_raise T.x_BadHistory hr (by omega) rfl (qa_cons (q_gstr T.g_THINGS) (qa_nil)))) (qss_nil)) (qss_cons (qs_for pOwn rfl (qi_enm T.f_enumerate (qa_cons (q_var 1 nm) (qa_nil))) (qg_tup rfl (qgs_cons (qg_name 3 nd) (qgs_cons (qg_name 4 nd) (qgs_nil))) (gl_cons (gl_cons (gl_nil)))) (qss_one (qs_if (qt_not (qt_val (q_call (KA 3 "is_thing" 1 rfl) hk (qa_cons (q_var 4 nm) (qa_nil))))) (qss_one (qs_raise T.x_BadHistory hr (by omega) rfl (qa_cons (q_tup (qa_cons (q_gstr T.g_THING) (qa_cons (q_var 3 nm) (qa_nil)))) (qa_nil)))) (qss_nil)))) (qss_cons (qs_if ((qw_or (qt_not (qt_val (q_isi .tuple T.f_isinstance T.f_tuple bt_tuple (q_var 2 nm)))) (qw_or1 (qt_cmp b_gt r_gt (q_callB c_len T.f_len bb_len (qa_cons (q_var 2 nm) (qa_nil))) (q_gint T.g_MOST_EMPTIES) (nomark _)))).t) (qss_one (qs_raise T.x_BadHistory hr (by omega) rfl (qa_cons (q_gstr T.g_EMPTIES) (qa_nil)))) (qss_nil)) (qss_cons (qs_for pOwn rfl (qi_enm T.f_enumerate (qa_cons (q_var 2 nm) (qa_nil))) (qg_tup rfl (qgs_cons (qg_name 3 nd) (qgs_cons (qg_name 4 nd) (qgs_nil))) (gl_cons (gl_cons (gl_nil)))) (qss_one (qs_if (qt_not (qt_val (q_call (KA 2 "is_call" 1 rfl) hk (qa_cons (q_var 4 nm) (qa_nil))))) (qss_one (qs_raise T.x_BadHistory hr (by omega) rfl (qa_cons (q_tup (qa_cons (q_gstr T.g_EMPTY) (qa_cons (q_var 3 nm) (qa_nil)))) (qa_nil)))) (qss_nil)))) (qss_one (qs_ret (q_var 0 nm))))))))
theorem kn_4 {P : Program} {w : World} {K : PySem.W.Frag} {mg : Str → Option Value} {base : Heap} {k : Nat} {c : Orc} (T : Tx P w K mg base) (KA : KnAll P w K mg base tab k c) : Kn P w K mg base (k + 5) "need_history" 1 (runZ 1 5 (b_need_history c)) := by
  obtain ⟨fd, F, hb⟩ := T.d_4
  exact ⟨⟨_, fd, ["thing"], rfl, fn_z (N := N_4) F sc_4 rfl (fun cdv A outer s H E hr => q_4 T KA hr), T.m_4, F.kp, hb⟩, ary_runZ⟩
theorem kz_4 {P : Program} {w : World} {K : PySem.W.Frag} {mg : Str → Option Value} {base : Heap} (T : Tx P w K mg base) : Kn P w K mg base 0 "need_history" 1 (fun _ => bad) := by
  obtain ⟨fd, F, hb⟩ := T.d_4
  exact ⟨⟨_, fd, ["thing"], rfl, fn_z0 rfl, T.m_4, F.kp, hb⟩, fun _ _ _ => rfl⟩
def N_5 : List Str := ["history", "one"]
theorem sc_5 : FnScope N_5 ["history", "one"] (defScope (top 18)) := ⟨rfl, rfl, rfl, by decide +kernel, rfl, by decide +kernel, by decide +kernel⟩
theorem nm_5 : NmOk N_5 := by unfold NmOk; decide +kernel
theorem q_5 {P : Program} {w : World} {K : PySem.W.Frag} {mg : Str → Option Value} {base : Heap} {f : Addr} {cdv : Value} {A : Around} {outer : List PySem.Env} {s : Shared} {H : Hp} {E : XK} {k : Nat} {c : Orc} (T : Tx P w K mg base) (KA : KnAll P w K mg base tab k c) (hr : Room (k + 4) (A.deeper (envOfC "need_number_of" (defScope (top 18)) s.heap.objs.size f cdv))) :
    QSs (cxOf (L2.CX P w) P w K mg base N_5 "need_number_of" (defScope (top 18)) f cdv A outer s H E) (defBody (top 18)) (b_need_number_of c) := by
  have nd := sc_5.nd
  have nm := nm_5
  have hk := hr.mono (Nat.le_add_right k 4)
  exact qss_one (qs_if (qt_not (qt_val (q_call (KA 1 "is_between" 3 rfl) hk (qa_cons (q_var 1 nm) (qa_cons (q_int) (qa_cons (q_op r_sub (q_callB c_len T.f_len bb_len (qa_cons (q_ix hr (q_var 0 nm) (q_int)) (qa_nil))) (q_int)) (qa_nil))))))) (qss_one (qs_raise T.x_BadNumber hr (by omega) rfl (qa_cons (q_var 1 nm) (qa_nil)))) (qss_nil))
theorem kn_5 {P : Program} {w : World} {K : PySem.W.Frag} {mg : Str → Option Value} {base : Heap} {k : Nat} {c : Orc} (T : Tx P w K mg base) (KA : KnAll P w K mg base tab k c) : Kn P w K mg base (k + 5) "need_number_of" 2 (runZ 2 2 (b_need_number_of c)) := by
  obtain ⟨fd, F, hb⟩ := T.d_5
  exact ⟨⟨_, fd, ["history", "one"], rfl, fn_z (N := N_5) F sc_5 rfl (fun cdv A outer s H E hr => q_5 T KA hr), T.m_5, F.kp, hb⟩, ary_runZ⟩
theorem kz_5 {P : Program} {w : World} {K : PySem.W.Frag} {mg : Str → Option Value} {base : Heap} (T : Tx P w K mg base) : Kn P w K mg base 0 "need_number_of" 2 (fun _ => bad) := by
  obtain ⟨fd, F, hb⟩ := T.d_5
  exact ⟨⟨_, fd, ["history", "one"], rfl, fn_z0 rfl, T.m_5, F.kp, hb⟩, fun _ _ _ => rfl⟩
def N_6 : List Str := ["near", "far"]
theorem sc_6 : FnScope N_6 ["near", "far"] (defScope (top 20)) := ⟨rfl, rfl, rfl, by decide +kernel, rfl, by decide +kernel, by decide +kernel⟩
theorem nm_6 : NmOk N_6 := by unfold NmOk; decide +kernel
theorem q_6 {P : Program} {w : World} {K : PySem.W.Frag} {mg : Str → Option Value} {base : Heap} {f : Addr} {cdv : Value} {A : Around} {outer : List PySem.Env} {s : Shared} {H : Hp} {E : XK} {k : Nat} {c : Orc} (T : Tx P w K mg base) (KA : KnAll P w K mg base tab k c) (hr : Room (k + 4) (A.deeper (envOfC "is_in_ahead" (defScope (top 20)) s.heap.objs.size f cdv))) :
    QSs (cxOf (L2.CX P w) P w K mg base N_6 "is_in_ahead" (defScope (top 20)) f cdv A outer s H E) (defBody (top 20)) (b_is_in_ahead c) := by
  have nd := sc_6.nd
  have nm := nm_6
  have hk := hr.mono (Nat.le_add_right k 4)
  exact qss_one (qs_ret (q_cmp r_lt (q_ix hr (q_ix hr (q_var 0 nm) (q_int)) (q_int)) (q_ix hr (q_ix hr (q_var 1 nm) (q_int)) (q_int)) (nomark _)))
theorem kn_6 {P : Program} {w : World} {K : PySem.W.Frag} {mg : Str → Option Value} {base : Heap} {k : Nat} {c : Orc} (T : Tx P w K mg base) (KA : KnAll P w K mg base tab k c) : Kn P w K mg base (k + 5) "is_in_ahead" 2 (runZ 2 2 (b_is_in_ahead c)) := by
  obtain ⟨fd, F, hb⟩ := T.d_6
  exact ⟨⟨_, fd, ["near", "far"], rfl, fn_z (N := N_6) F sc_6 rfl (fun cdv A outer s H E hr => q_6 T KA hr), T.m_6, F.kp, hb⟩, ary_runZ⟩
theorem kz_6 {P : Program} {w : World} {K : PySem.W.Frag} {mg : Str → Option Value} {base : Heap} (T : Tx P w K mg base) : Kn P w K mg base 0 "is_in_ahead" 2 (fun _ => bad) := by
  obtain ⟨fd, F, hb⟩ := T.d_6
  exact ⟨⟨_, fd, ["near", "far"], rfl, fn_z0 rfl, T.m_6, F.kp, hb⟩, fun _ _ _ => rfl⟩
def N_7 : List Str := ["near", "far"]
theorem sc_7 : FnScope N_7 ["near", "far"] (defScope (top 21)) := ⟨rfl, rfl, rfl, by decide +kernel, rfl, by decide +kernel, by decide +kernel⟩
theorem nm_7 : NmOk N_7 := by unfold NmOk; decide +kernel
theorem q_7 {P : Program} {w : World} {K : PySem.W.Frag} {mg : Str → Option Value} {base : Heap} {f : Addr} {cdv : Value} {A : Around} {outer : List PySem.Env} {s : Shared} {H : Hp} {E : XK} {k : Nat} {c : Orc} (T : Tx P w K mg base) (KA : KnAll P w K mg base tab k c) (hr : Room (k + 4) (A.deeper (envOfC "is_out_ahead" (defScope (top 21)) s.heap.objs.size f cdv))) :
    QSs (cxOf (L2.CX P w) P w K mg base N_7 "is_out_ahead" (defScope (top 21)) f cdv A outer s H E) (defBody (top 21)) (b_is_out_ahead c) := by
  have nd := sc_7.nd
  have nm := nm_7
  have hk := hr.mono (Nat.le_add_right k 4)
  exact qss_cons (qs_if (qt_cmp b_is r_is (q_ix hr (q_var 0 nm) (q_int)) (q_non) (nomark _)) (qss_one (qs_ret (q_bl))) (qss_nil)) (qss_one (qs_ret (q_or (q_cmp r_is (q_ix hr (q_var 1 nm) (q_int)) (q_non) (nomark _)) (q_one (q_cmp r_lt (q_ix hr (q_ix hr (q_var 0 nm) (q_int)) (q_int)) (q_ix hr (q_ix hr (q_var 1 nm) (q_int)) (q_int)) (nomark _))))))
theorem kn_7 {P : Program} {w : World} {K : PySem.W.Frag} {mg : Str → Option Value} {base : Heap} {k : Nat} {c : Orc} (T : Tx P w K mg base) (KA : KnAll P w K mg base tab k c) : Kn P w K mg base (k + 5) "is_out_ahead" 2 (runZ 2 2 (b_is_out_ahead c)) := by
  obtain ⟨fd, F, hb⟩ := T.d_7
  exact ⟨⟨_, fd, ["near", "far"], rfl, fn_z (N := N_7) F sc_7 rfl (fun cdv A outer s H E hr => q_7 T KA hr), T.m_7, F.kp, hb⟩, ary_runZ⟩
theorem kz_7 {P : Program} {w : World} {K : PySem.W.Frag} {mg : Str → Option Value} {base : Heap} (T : Tx P w K mg base) : Kn P w K mg base 0 "is_out_ahead" 2 (fun _ => bad) := by
  obtain ⟨fd, F, hb⟩ := T.d_7
  exact ⟨⟨_, fd, ["near", "far"], rfl, fn_z0 rfl, T.m_7, F.kp, hb⟩, fun _ _ _ => rfl⟩
def N_8 : List Str := ["near", "far"]
theorem sc_8 : FnScope N_8 ["near", "far"] (defScope (top 22)) := ⟨rfl, rfl, rfl, by decide +kernel, rfl, by decide +kernel, by decide +kernel⟩
theorem nm_8 : NmOk N_8 := by unfold NmOk; decide +kernel
theorem q_8 {P : Program} {w : World} {K : PySem.W.Frag} {mg : Str → Option Value} {base : Heap} {f : Addr} {cdv : Value} {A : Around} {outer : List PySem.Env} {s : Shared} {H : Hp} {E : XK} {k : Nat} {c : Orc} (T : Tx P w K mg base) (KA : KnAll P w K mg base tab k c) (hr : Room (k + 4) (A.deeper (envOfC "is_turned_with" (defScope (top 22)) s.heap.objs.size f cdv))) :
    QSs (cxOf (L2.CX P w) P w K mg base N_8 "is_turned_with" (defScope (top 22)) f cdv A outer s H E) (defBody (top 22)) (b_is_turned_with c) := by
  have nd := sc_8.nd
  have nm := nm_8
  have hk := hr.mono (Nat.le_add_right k 4)
  exact qss_one (qs_ret (q_and (q_call (KA 6 "is_in_ahead" 2 rfl) hk (qa_cons (q_var 0 nm) (qa_cons (q_var 1 nm) (qa_nil)))) (q_one (q_call (KA 7 "is_out_ahead" 2 rfl) hk (qa_cons (q_var 1 nm) (qa_cons (q_var 0 nm) (qa_nil)))))))
theorem kn_8 {P : Program} {w : World} {K : PySem.W.Frag} {mg : Str → Option Value} {base : Heap} {k : Nat} {c : Orc} (T : Tx P w K mg base) (KA : KnAll P w K mg base tab k c) : Kn P w K mg base (k + 5) "is_turned_with" 2 (runZ 2 2 (b_is_turned_with c)) := by
  obtain ⟨fd, F, hb⟩ := T.d_8
  exact ⟨⟨_, fd, ["near", "far"], rfl, fn_z (N := N_8) F sc_8 rfl (fun cdv A outer s H E hr => q_8 T KA hr), T.m_8, F.kp, hb⟩, ary_runZ⟩
theorem kz_8 {P : Program} {w : World} {K : PySem.W.Frag} {mg : Str → Option Value} {base : Heap} (T : Tx P w K mg base) : Kn P w K mg base 0 "is_turned_with" 2 (fun _ => bad) := by
  obtain ⟨fd, F, hb⟩ := T.d_8
  exact ⟨⟨_, fd, ["near", "far"], rfl, fn_z0 rfl, T.m_8, F.kp, hb⟩, fun _ _ _ => rfl⟩
def N_9 : List Str := ["thing"]
theorem sc_9 : FnScope N_9 ["thing"] (defScope (top 23)) := ⟨rfl, rfl, rfl, by decide +kernel, rfl, by decide +kernel, by decide +kernel⟩
theorem nm_9 : NmOk N_9 := by unfold NmOk; decide +kernel
theorem q_9 {P : Program} {w : World} {K : PySem.W.Frag} {mg : Str → Option Value} {base : Heap} {f : Addr} {cdv : Value} {A : Around} {outer : List PySem.Env} {s : Shared} {H : Hp} {E : XK} {k : Nat} {c : Orc} (T : Tx P w K mg base) (KA : KnAll P w K mg base tab k c) (hr : Room (k + 4) (A.deeper (envOfC "is_early" (defScope (top 23)) s.heap.objs.size f cdv))) :
    QSs (cxOf (L2.CX P w) P w K mg base N_9 "is_early" (defScope (top 23)) f cdv A outer s H E) (defBody (top 23)) (b_is_early c) := by
  have nd := sc_9.nd
  have nm := nm_9
  have hk := hr.mono (Nat.le_add_right k 4)
  exact qss_one (qs_ret (q_and (q_cmp r_isNot (q_ix hr (q_var 0 nm) (q_int)) (q_non) (nomark _)) (q_one (q_cmp r_lt (q_ix hr (q_ix hr (q_var 0 nm) (q_int)) (q_int)) (q_ix hr (q_ix hr (q_var 0 nm) (q_int)) (q_int)) (nomark _)))))
theorem kn_9 {P : Program} {w : World} {K : PySem.W.Frag} {mg : Str → Option Value} {base : Heap} {k : Nat} {c : Orc} (T : Tx P w K mg base) (KA : KnAll P w K mg base tab k c) : Kn P w K mg base (k + 5) "is_early" 1 (runZ 1 1 (b_is_early c)) := by
  obtain ⟨fd, F, hb⟩ := T.d_9
  exact ⟨⟨_, fd, ["thing"], rfl, fn_z (N := N_9) F sc_9 rfl (fun cdv A outer s H E hr => q_9 T KA hr), T.m_9, F.kp, hb⟩, ary_runZ⟩
theorem kz_9 {P : Program} {w : World} {K : PySem.W.Frag} {mg : Str → Option Value} {base : Heap} (T : Tx P w K mg base) : Kn P w K mg base 0 "is_early" 1 (fun _ => bad) := by
  obtain ⟨fd, F, hb⟩ := T.d_9
  exact ⟨⟨_, fd, ["thing"], rfl, fn_z0 rfl, T.m_9, F.kp, hb⟩, fun _ _ _ => rfl⟩
def N_10 : List Str := ["history", "one", "other"]
theorem sc_10 : FnScope N_10 ["history", "one", "other"] (defScope (top 24)) := ⟨rfl, rfl, rfl, by decide +kernel, rfl, by decide +kernel, by decide +kernel⟩
theorem nm_10 : NmOk N_10 := by unfold NmOk; decide +kernel
theorem q_10 {P : Program} {w : World} {K : PySem.W.Frag} {mg : Str → Option Value} {base : Heap} {f : Addr} {cdv : Value} {A : Around} {outer : List PySem.Env} {s : Shared} {H : Hp} {E : XK} {k : Nat} {c : Orc} (T : Tx P w K mg base) (KA : KnAll P w K mg base tab k c) (hr : Room (k + 4) (A.deeper (envOfC "need_two" (defScope (top 24)) s.heap.objs.size f cdv))) :
    QSs (cxOf (L2.CX P w) P w K mg base N_10 "need_two" (defScope (top 24)) f cdv A outer s H E) (defBody (top 24)) (b_need_two c) := by
  have nd := sc_10.nd
  have nm := nm_10
  have hk := hr.mono (Nat.le_add_right k 4)
  exact qss_cons (qs_expr (q_call (KA 5 "need_number_of" 2 rfl) hk (qa_cons (q_call (KA 4 "need_history" 1 rfl) hk (qa_cons (q_var 0 nm) (qa_nil))) (qa_cons (q_var 1 nm) (qa_nil))))) (qss_cons (qs_expr (q_call (KA 5 "need_number_of" 2 rfl) hk (qa_cons (q_var 0 nm) (qa_cons (q_var 2 nm) (qa_nil))))) (qss_one (qs_ret (q_tup (qa_cons (q_ix hr (q_ix hr (q_var 0 nm) (q_int)) (q_var 1 nm)) (qa_cons (q_ix hr (q_ix hr (q_var 0 nm) (q_int)) (q_var 2 nm)) (qa_nil)))))))
theorem kn_10 {P : Program} {w : World} {K : PySem.W.Frag} {mg : Str → Option Value} {base : Heap} {k : Nat} {c : Orc} (T : Tx P w K mg base) (KA : KnAll P w K mg base tab k c) : Kn P w K mg base (k + 5) "need_two" 3 (runZ 3 3 (b_need_two c)) := by
  obtain ⟨fd, F, hb⟩ := T.d_10
  exact ⟨⟨_, fd, ["history", "one", "other"], rfl, fn_z (N := N_10) F sc_10 rfl (fun cdv A outer s H E hr => q_10 T KA hr), T.m_10, F.kp, hb⟩, ary_runZ⟩
theorem kz_10 {P : Program} {w : World} {K : PySem.W.Frag} {mg : Str → Option Value} {base : Heap} (T : Tx P w K mg base) : Kn P w K mg base 0 "need_two" 3 (fun _ => bad) := by
  obtain ⟨fd, F, hb⟩ := T.d_10
  exact ⟨⟨_, fd, ["history", "one", "other"], rfl, fn_z0 rfl, T.m_10, F.kp, hb⟩, fun _ _ _ => rfl⟩
def N_11 : List Str := ["history", "one", "other", "near", "far"]
theorem sc_11 : FnScope N_11 ["history", "one", "other"] (defScope (top 25)) := ⟨rfl, rfl, rfl, by decide +kernel, rfl, by decide +kernel, by decide +kernel⟩
theorem nm_11 : NmOk N_11 := by unfold NmOk; decide +kernel
theorem q_11 {P : Program} {w : World} {K : PySem.W.Frag} {mg : Str → Option Value} {base : Heap} {f : Addr} {cdv : Value} {A : Around} {outer : List PySem.Env} {s : Shared} {H : Hp} {E : XK} {k : Nat} {c : Orc} (T : Tx P w K mg base) (KA : KnAll P w K mg base tab k c) (hr : Room (k + 4) (A.deeper (envOfC "is_in" (defScope (top 25)) s.heap.objs.size f cdv))) :
    QSs (cxOf (L2.CX P w) P w K mg base N_11 "is_in" (defScope (top 25)) f cdv A outer s H E) (defBody (top 25)) (b_is_in c) := by
  have nd := sc_11.nd
  have nm := nm_11
  have hk := hr.mono (Nat.le_add_right k 4)
  exact qss_cons (qs_asg (q_call (KA 10 "need_two" 3 rfl) hk (qa_cons (q_var 0 nm) (qa_cons (q_var 1 nm) (qa_cons (q_var 2 nm) (qa_nil))))) (qg_tup rfl (qgs_cons (qg_name 3 nd) (qgs_cons (qg_name 4 nd) (qgs_nil))) (gl_cons (gl_cons (gl_nil))))) (qss_one (qs_ret (q_call (KA 6 "is_in_ahead" 2 rfl) hk (qa_cons (q_var 3 nm) (qa_cons (q_var 4 nm) (qa_nil))))))
theorem kn_11 {P : Program} {w : World} {K : PySem.W.Frag} {mg : Str → Option Value} {base : Heap} {k : Nat} {c : Orc} (T : Tx P w K mg base) (KA : KnAll P w K mg base tab k c) : Kn P w K mg base (k + 5) "is_in" 3 (runZ 3 5 (b_is_in c)) := by
  obtain ⟨fd, F, hb⟩ := T.d_11
  exact ⟨⟨_, fd, ["history", "one", "other"], rfl, fn_z (N := N_11) F sc_11 rfl (fun cdv A outer s H E hr => q_11 T KA hr), T.m_11, F.kp, hb⟩, ary_runZ⟩
theorem kz_11 {P : Program} {w : World} {K : PySem.W.Frag} {mg : Str → Option Value} {base : Heap} (T : Tx P w K mg base) : Kn P w K mg base 0 "is_in" 3 (fun _ => bad) := by
  obtain ⟨fd, F, hb⟩ := T.d_11
  exact ⟨⟨_, fd, ["history", "one", "other"], rfl, fn_z0 rfl, T.m_11, F.kp, hb⟩, fun _ _ _ => rfl⟩
def N_12 : List Str := ["history", "one", "other", "near", "far"]
theorem sc_12 : FnScope N_12 ["history", "one", "other"] (defScope (top 26)) := ⟨rfl, rfl, rfl, by decide +kernel, rfl, by decide +kernel, by decide +kernel⟩
theorem nm_12 : NmOk N_12 := by unfold NmOk; decide +kernel
theorem q_12 {P : Program} {w : World} {K : PySem.W.Frag} {mg : Str → Option Value} {base : Heap} {f : Addr} {cdv : Value} {A : Around} {outer : List PySem.Env} {s : Shared} {H : Hp} {E : XK} {k : Nat} {c : Orc} (T : Tx P w K mg base) (KA : KnAll P w K mg base tab k c) (hr : Room (k + 4) (A.deeper (envOfC "is_out" (defScope (top 26)) s.heap.objs.size f cdv))) :
    QSs (cxOf (L2.CX P w) P w K mg base N_12 "is_out" (defScope (top 26)) f cdv A outer s H E) (defBody (top 26)) (b_is_out c) := by
  have nd := sc_12.nd
  have nm := nm_12
  have hk := hr.mono (Nat.le_add_right k 4)
  exact qss_cons (qs_asg (q_call (KA 10 "need_two" 3 rfl) hk (qa_cons (q_var 0 nm) (qa_cons (q_var 1 nm) (qa_cons (q_var 2 nm) (qa_nil))))) (qg_tup rfl (qgs_cons (qg_name 3 nd) (qgs_cons (qg_name 4 nd) (qgs_nil))) (gl_cons (gl_cons (gl_nil))))) (qss_one (qs_ret (q_call (KA 7 "is_out_ahead" 2 rfl) hk (qa_cons (q_var 3 nm) (qa_cons (q_var 4 nm) (qa_nil))))))
theorem kn_12 {P : Program} {w : World} {K : PySem.W.Frag} {mg : Str → Option Value} {base : Heap} {k : Nat} {c : Orc} (T : Tx P w K mg base) (KA : KnAll P w K mg base tab k c) : Kn P w K mg base (k + 5) "is_out" 3 (runZ 3 5 (b_is_out c)) := by
  obtain ⟨fd, F, hb⟩ := T.d_12
  exact ⟨⟨_, fd, ["history", "one", "other"], rfl, fn_z (N := N_12) F sc_12 rfl (fun cdv A outer s H E hr => q_12 T KA hr), T.m_12, F.kp, hb⟩, ary_runZ⟩
theorem kz_12 {P : Program} {w : World} {K : PySem.W.Frag} {mg : Str → Option Value} {base : Heap} (T : Tx P w K mg base) : Kn P w K mg base 0 "is_out" 3 (fun _ => bad) := by
  obtain ⟨fd, F, hb⟩ := T.d_12
  exact ⟨⟨_, fd, ["history", "one", "other"], rfl, fn_z0 rfl, T.m_12, F.kp, hb⟩, fun _ _ _ => rfl⟩
def N_13 : List Str := ["history", "one", "other", "near", "far"]
theorem sc_13 : FnScope N_13 ["history", "one", "other"] (defScope (top 27)) := ⟨rfl, rfl, rfl, by decide +kernel, rfl, by decide +kernel, by decide +kernel⟩
theorem nm_13 : NmOk N_13 := by unfold NmOk; decide +kernel
theorem q_13 {P : Program} {w : World} {K : PySem.W.Frag} {mg : Str → Option Value} {base : Heap} {f : Addr} {cdv : Value} {A : Around} {outer : List PySem.Env} {s : Shared} {H : Hp} {E : XK} {k : Nat} {c : Orc} (T : Tx P w K mg base) (KA : KnAll P w K mg base tab k c) (hr : Room (k + 4) (A.deeper (envOfC "is_turned" (defScope (top 27)) s.heap.objs.size f cdv))) :
    QSs (cxOf (L2.CX P w) P w K mg base N_13 "is_turned" (defScope (top 27)) f cdv A outer s H E) (defBody (top 27)) (b_is_turned c) := by
  have nd := sc_13.nd
  have nm := nm_13
  have hk := hr.mono (Nat.le_add_right k 4)
  exact qss_cons (qs_asg (q_call (KA 10 "need_two" 3 rfl) hk (qa_cons (q_var 0 nm) (qa_cons (q_var 1 nm) (qa_cons (q_var 2 nm) (qa_nil))))) (qg_tup rfl (qgs_cons (qg_name 3 nd) (qgs_cons (qg_name 4 nd) (qgs_nil))) (gl_cons (gl_cons (gl_nil))))) (qss_one (qs_ret (q_call (KA 8 "is_turned_with" 2 rfl) hk (qa_cons (q_var 3 nm) (qa_cons (q_var 4 nm) (qa_nil))))))
theorem kn_13 {P : Program} {w : World} {K : PySem.W.Frag} {mg : Str → Option Value} {base : Heap} {k : Nat} {c : Orc} (T : Tx P w K mg base) (KA : KnAll P w K mg base tab k c) : Kn P w K mg base (k + 5) "is_turned" 3 (runZ 3 5 (b_is_turned c)) := by
  obtain ⟨fd, F, hb⟩ := T.d_13
  exact ⟨⟨_, fd, ["history", "one", "other"], rfl, fn_z (N := N_13) F sc_13 rfl (fun cdv A outer s H E hr => q_13 T KA hr), T.m_13, F.kp, hb⟩, ary_runZ⟩
theorem kz_13 {P : Program} {w : World} {K : PySem.W.Frag} {mg : Str → Option Value} {base : Heap} (T : Tx P w K mg base) : Kn P w K mg base 0 "is_turned" 3 (fun _ => bad) := by
  obtain ⟨fd, F, hb⟩ := T.d_13
  exact ⟨⟨_, fd, ["history", "one", "other"], rfl, fn_z0 rfl, T.m_13, F.kp, hb⟩, fun _ _ _ => rfl⟩
def N_14 : List Str := ["things", "found", "one", "near", "other", "far"]
theorem sc_14 : FnScope N_14 ["things"] (defScope (top 28)) := ⟨rfl, rfl, rfl, by decide +kernel, rfl, by decide +kernel, by decide +kernel⟩
theorem nm_14 : NmOk N_14 := by unfold NmOk; decide +kernel
theorem q_14 {P : Program} {w : World} {K : PySem.W.Frag} {mg : Str → Option Value} {base : Heap} {f : Addr} {cdv : Value} {A : Around} {outer : List PySem.Env} {s : Shared} {H : Hp} {E : XK} {k : Nat} {c : Orc} (T : Tx P w K mg base) (KA : KnAll P w K mg base tab k c) (hr : Room (k + 4) (A.deeper (envOfC "pairs_in" (defScope (top 28)) s.heap.objs.size f cdv))) :
    QSs (cxOf (L2.CX P w) P w K mg base N_14 "pairs_in" (defScope (top 28)) f cdv A outer s H E) (defBody (top 28)) (b_pairs_in c) := by
  have nd := sc_14.nd
  have nm := nm_14
  have hk := hr.mono (Nat.le_add_right k 4)
  exact qss_cons (qs_set 1 nd (q_lst (qa_nil))) (qss_cons (qs_for pOwn rfl (qi_enm T.f_enumerate (qa_cons (q_var 0 nm) (qa_nil))) (qg_tup rfl (qgs_cons (qg_name 2 nd) (qgs_cons (qg_name 3 nd) (qgs_nil))) (gl_cons (gl_cons (gl_nil)))) (qss_one (qs_expr (q_lm PySem.F.slot_list_extend PySem.F.type_list_extend m_ext (q_var 1 nm) (qa_cons (q_lc [("other", 4), ("far", 5)] rfl nd (qi_enm T.f_enumerate (qa_cons (q_var 0 nm) (qa_nil))) (blkOk_by (by kernel_rfl)) (fun _ _ _ _ _ => qg_tup rfl (qgs_cons (qg_name 4 nd) (qgs_cons (qg_name 5 nd) (qgs_nil))) (gl_cons (gl_cons (gl_nil)))) (fun _ _ _ _ _ => qts_one (qt_val (q_call (KA 8 "is_turned_with" 2 rfl) hk (qa_cons (q_var 3 nm) (qa_cons (q_var 5 nm) (qa_nil)))))) (fun _ _ _ _ _ => q_tup (qa_cons (q_var 2 nm) (qa_cons (q_var 4 nm) (qa_nil)))) (by decide)) (qa_nil)))))) (qss_one (qs_ret (q_var 1 nm))))
theorem kn_14 {P : Program} {w : World} {K : PySem.W.Frag} {mg : Str → Option Value} {base : Heap} {k : Nat} {c : Orc} (T : Tx P w K mg base) (KA : KnAll P w K mg base tab k c) : Kn P w K mg base (k + 5) "pairs_in" 1 (runZ 1 6 (b_pairs_in c)) := by
  obtain ⟨fd, F, hb⟩ := T.d_14
  exact ⟨⟨_, fd, ["things"], rfl, fn_z (N := N_14) F sc_14 rfl (fun cdv A outer s H E hr => q_14 T KA hr), T.m_14, F.kp, hb⟩, ary_runZ⟩
theorem kz_14 {P : Program} {w : World} {K : PySem.W.Frag} {mg : Str → Option Value} {base : Heap} (T : Tx P w K mg base) : Kn P w K mg base 0 "pairs_in" 1 (fun _ => bad) := by
  obtain ⟨fd, F, hb⟩ := T.d_14
  exact ⟨⟨_, fd, ["things"], rfl, fn_z0 rfl, T.m_14, F.kp, hb⟩, fun _ _ _ => rfl⟩
def N_15 : List Str := ["history"]
theorem sc_15 : FnScope N_15 ["history"] (defScope (top 29)) := ⟨rfl, rfl, rfl, by decide +kernel, rfl, by decide +kernel, by decide +kernel⟩
theorem nm_15 : NmOk N_15 := by unfold NmOk; decide +kernel
theorem q_15 {P : Program} {w : World} {K : PySem.W.Frag} {mg : Str → Option Value} {base : Heap} {f : Addr} {cdv : Value} {A : Around} {outer : List PySem.Env} {s : Shared} {H : Hp} {E : XK} {k : Nat} {c : Orc} (T : Tx P w K mg base) (KA : KnAll P w K mg base tab k c) (hr : Room (k + 4) (A.deeper (envOfC "turned_pairs" (defScope (top 29)) s.heap.objs.size f cdv))) :
    QSs (cxOf (L2.CX P w) P w K mg base N_15 "turned_pairs" (defScope (top 29)) f cdv A outer s H E) (defBody (top 29)) (b_turned_pairs c) := by
  have nd := sc_15.nd
  have nm := nm_15
  have hk := hr.mono (Nat.le_add_right k 4)
  exact qss_one (qs_ret (q_callTy c_tuple T.f_tuple bt_tuple (qa_cons (q_call (KA 14 "pairs_in" 1 rfl) hk (qa_cons (q_ix hr (q_call (KA 4 "need_history" 1 rfl) hk (qa_cons (q_var 0 nm) (qa_nil))) (q_int)) (qa_nil))) (qa_nil))))
theorem kn_15 {P : Program} {w : World} {K : PySem.W.Frag} {mg : Str → Option Value} {base : Heap} {k : Nat} {c : Orc} (T : Tx P w K mg base) (KA : KnAll P w K mg base tab k c) : Kn P w K mg base (k + 5) "turned_pairs" 1 (runZ 1 1 (b_turned_pairs c)) := by
  obtain ⟨fd, F, hb⟩ := T.d_15
  exact ⟨⟨_, fd, ["history"], rfl, fn_z (N := N_15) F sc_15 rfl (fun cdv A outer s H E hr => q_15 T KA hr), T.m_15, F.kp, hb⟩, ary_runZ⟩
theorem kz_15 {P : Program} {w : World} {K : PySem.W.Frag} {mg : Str → Option Value} {base : Heap} (T : Tx P w K mg base) : Kn P w K mg base 0 "turned_pairs" 1 (fun _ => bad) := by
  obtain ⟨fd, F, hb⟩ := T.d_15
  exact ⟨⟨_, fd, ["history"], rfl, fn_z0 rfl, T.m_15, F.kp, hb⟩, fun _ _ _ => rfl⟩
def N_16 : List Str := ["things", "number", "thing"]
theorem sc_16 : FnScope N_16 ["things"] (defScope (top 30)) := ⟨rfl, rfl, rfl, by decide +kernel, rfl, by decide +kernel, by decide +kernel⟩
theorem nm_16 : NmOk N_16 := by unfold NmOk; decide +kernel
theorem q_16 {P : Program} {w : World} {K : PySem.W.Frag} {mg : Str → Option Value} {base : Heap} {f : Addr} {cdv : Value} {A : Around} {outer : List PySem.Env} {s : Shared} {H : Hp} {E : XK} {k : Nat} {c : Orc} (T : Tx P w K mg base) (KA : KnAll P w K mg base tab k c) (hr : Room (k + 4) (A.deeper (envOfC "early_in" (defScope (top 30)) s.heap.objs.size f cdv))) :
    QSs (cxOf (L2.CX P w) P w K mg base N_16 "early_in" (defScope (top 30)) f cdv A outer s H E) (defBody (top 30)) (b_early_in c) := by
  have nd := sc_16.nd
  have nm := nm_16
  have hk := hr.mono (Nat.le_add_right k 4)
  exact qss_one (qs_ret (q_lc [("number", 1), ("thing", 2)] rfl nd (qi_enm T.f_enumerate (qa_cons (q_var 0 nm) (qa_nil))) (blkOk_by (by kernel_rfl)) (fun _ _ _ _ _ => qg_tup rfl (qgs_cons (qg_name 1 nd) (qgs_cons (qg_name 2 nd) (qgs_nil))) (gl_cons (gl_cons (gl_nil)))) (fun _ _ _ _ _ => qts_one (qt_val (q_call (KA 9 "is_early" 1 rfl) hk (qa_cons (q_var 2 nm) (qa_nil))))) (fun _ _ _ _ _ => q_var 1 nm) (by decide)))
theorem kn_16 {P : Program} {w : World} {K : PySem.W.Frag} {mg : Str → Option Value} {base : Heap} {k : Nat} {c : Orc} (T : Tx P w K mg base) (KA : KnAll P w K mg base tab k c) : Kn P w K mg base (k + 5) "early_in" 1 (runZ 1 3 (b_early_in c)) := by
  obtain ⟨fd, F, hb⟩ := T.d_16
  exact ⟨⟨_, fd, ["things"], rfl, fn_z (N := N_16) F sc_16 rfl (fun cdv A outer s H E hr => q_16 T KA hr), T.m_16, F.kp, hb⟩, ary_runZ⟩
theorem kz_16 {P : Program} {w : World} {K : PySem.W.Frag} {mg : Str → Option Value} {base : Heap} (T : Tx P w K mg base) : Kn P w K mg base 0 "early_in" 1 (fun _ => bad) := by
  obtain ⟨fd, F, hb⟩ := T.d_16
  exact ⟨⟨_, fd, ["things"], rfl, fn_z0 rfl, T.m_16, F.kp, hb⟩, fun _ _ _ => rfl⟩
def N_17 : List Str := ["history"]
theorem sc_17 : FnScope N_17 ["history"] (defScope (top 31)) := ⟨rfl, rfl, rfl, by decide +kernel, rfl, by decide +kernel, by decide +kernel⟩
theorem nm_17 : NmOk N_17 := by unfold NmOk; decide +kernel
theorem q_17 {P : Program} {w : World} {K : PySem.W.Frag} {mg : Str → Option Value} {base : Heap} {f : Addr} {cdv : Value} {A : Around} {outer : List PySem.Env} {s : Shared} {H : Hp} {E : XK} {k : Nat} {c : Orc} (T : Tx P w K mg base) (KA : KnAll P w K mg base tab k c) (hr : Room (k + 4) (A.deeper (envOfC "early" (defScope (top 31)) s.heap.objs.size f cdv))) :
    QSs (cxOf (L2.CX P w) P w K mg base N_17 "early" (defScope (top 31)) f cdv A outer s H E) (defBody (top 31)) (b_early c) := by
  have nd := sc_17.nd
  have nm := nm_17
  have hk := hr.mono (Nat.le_add_right k 4)
  exact qss_one (qs_ret (q_callTy c_tuple T.f_tuple bt_tuple (qa_cons (q_call (KA 16 "early_in" 1 rfl) hk (qa_cons (q_ix hr (q_call (KA 4 "need_history" 1 rfl) hk (qa_cons (q_var 0 nm) (qa_nil))) (q_int)) (qa_nil))) (qa_nil))))
theorem kn_17 {P : Program} {w : World} {K : PySem.W.Frag} {mg : Str → Option Value} {base : Heap} {k : Nat} {c : Orc} (T : Tx P w K mg base) (KA : KnAll P w K mg base tab k c) : Kn P w K mg base (k + 5) "early" 1 (runZ 1 1 (b_early c)) := by
  obtain ⟨fd, F, hb⟩ := T.d_17
  exact ⟨⟨_, fd, ["history"], rfl, fn_z (N := N_17) F sc_17 rfl (fun cdv A outer s H E hr => q_17 T KA hr), T.m_17, F.kp, hb⟩, ary_runZ⟩
theorem kz_17 {P : Program} {w : World} {K : PySem.W.Frag} {mg : Str → Option Value} {base : Heap} (T : Tx P w K mg base) : Kn P w K mg base 0 "early" 1 (fun _ => bad) := by
  obtain ⟨fd, F, hb⟩ := T.d_17
  exact ⟨⟨_, fd, ["history"], rfl, fn_z0 rfl, T.m_17, F.kp, hb⟩, fun _ _ _ => rfl⟩
def N_18 : List Str := ["things", "turn", "found", "pairs", "thing", "other", "one", "far"]
theorem sc_18 : FnScope N_18 ["things"] (defScope (top 32)) := ⟨rfl, rfl, rfl, by decide +kernel, rfl, by decide +kernel, by decide +kernel⟩
theorem nm_18 : NmOk N_18 := by unfold NmOk; decide +kernel
theorem q_18 {P : Program} {w : World} {K : PySem.W.Frag} {mg : Str → Option Value} {base : Heap} {f : Addr} {cdv : Value} {A : Around} {outer : List PySem.Env} {s : Shared} {H : Hp} {E : XK} {k : Nat} {c : Orc} (T : Tx P w K mg base) (KA : KnAll P w K mg base tab k c) (hr : Room (k + 4) (A.deeper (envOfC "levels_in" (defScope (top 32)) s.heap.objs.size f cdv))) :
    QSs (cxOf (L2.CX P w) P w K mg base N_18 "levels_in" (defScope (top 32)) f cdv A outer s H E) (defBody (top 32)) (b_levels_in c) := by
  have nd := sc_18.nd
  have nm := nm_18
  have hk := hr.mono (Nat.le_add_right k 4)
  exact qss_cons (qs_asg (q_tup (qa_cons (q_lc [("thing", 4)] rfl nd (qi_seq (q_var 0 nm)) (blkOk_by (by kernel_rfl)) (fun _ _ _ _ _ => qg_name 4 nd) (fun _ _ _ _ _ => qts_nil) (fun _ _ _ _ _ => q_int) (by decide)) (qa_cons (q_call (KA 14 "pairs_in" 1 rfl) hk (qa_cons (q_var 0 nm) (qa_nil))) (qa_nil)))) (qg_tup rfl (qgs_cons (qg_name 2 nd) (qgs_cons (qg_name 3 nd) (qgs_nil))) (gl_cons (gl_cons (gl_nil))))) (qss_cons (qs_for pOwn rfl (qi_rng1 T.f_range (qa_cons (q_callB c_len T.f_len bb_len (qa_cons (q_var 0 nm) (qa_nil))) (qa_nil))) (qg_name 1 nd) (qss_one (qs_set 2 nd (q_lc [("other", 5)] rfl nd (qi_rng1 T.f_range (qa_cons (q_callB c_len T.f_len bb_len (qa_cons (q_var 0 nm) (qa_nil))) (qa_nil))) (blkOk_by (by kernel_rfl)) (fun _ _ _ _ _ => qg_name 5 nd) (fun _ _ _ _ _ => qts_nil) (fun _ _ _ _ _ => q_op r_add (q_int) (q_callB (c_maxG hr rfl) T.f_max bb_max (qa_cons (q_op r_add (q_lst (qa_cons (q_int) (qa_nil))) (q_lc [("one", 6), ("far", 7)] rfl nd (qi_seq (q_var 3 nm)) (blkOk_by (by kernel_rfl)) (fun _ _ _ _ _ => qg_tup rfl (qgs_cons (qg_name 6 nd) (qgs_cons (qg_name 7 nd) (qgs_nil))) (gl_cons (gl_cons (gl_nil)))) (fun _ _ _ _ _ => qts_one (qt_cmp (b_fPD _) (r_eq hr) (q_var 7 nm) (q_var 5 nm) (nomark _))) (fun _ _ _ _ _ => q_ix hr (q_var 2 nm) (q_var 6 nm)) (by decide))) (qa_nil)))) (by decide))))) (qss_one (qs_ret (q_var 2 nm))))
theorem kn_18 {P : Program} {w : World} {K : PySem.W.Frag} {mg : Str → Option Value} {base : Heap} {k : Nat} {c : Orc} (T : Tx P w K mg base) (KA : KnAll P w K mg base tab k c) : Kn P w K mg base (k + 5) "levels_in" 1 (runZ 1 8 (b_levels_in c)) := by
  obtain ⟨fd, F, hb⟩ := T.d_18
  exact ⟨⟨_, fd, ["things"], rfl, fn_z (N := N_18) F sc_18 rfl (fun cdv A outer s H E hr => q_18 T KA hr), T.m_18, F.kp, hb⟩, ary_runZ⟩
theorem kz_18 {P : Program} {w : World} {K : PySem.W.Frag} {mg : Str → Option Value} {base : Heap} (T : Tx P w K mg base) : Kn P w K mg base 0 "levels_in" 1 (fun _ => bad) := by
  obtain ⟨fd, F, hb⟩ := T.d_18
  exact ⟨⟨_, fd, ["things"], rfl, fn_z0 rfl, T.m_18, F.kp, hb⟩, fun _ _ _ => rfl⟩
def N_19 : List Str := ["history"]
theorem sc_19 : FnScope N_19 ["history"] (defScope (top 33)) := ⟨rfl, rfl, rfl, by decide +kernel, rfl, by decide +kernel, by decide +kernel⟩
theorem nm_19 : NmOk N_19 := by unfold NmOk; decide +kernel
theorem q_19 {P : Program} {w : World} {K : PySem.W.Frag} {mg : Str → Option Value} {base : Heap} {f : Addr} {cdv : Value} {A : Around} {outer : List PySem.Env} {s : Shared} {H : Hp} {E : XK} {k : Nat} {c : Orc} (T : Tx P w K mg base) (KA : KnAll P w K mg base tab k c) (hr : Room (k + 4) (A.deeper (envOfC "longest_to" (defScope (top 33)) s.heap.objs.size f cdv))) :
    QSs (cxOf (L2.CX P w) P w K mg base N_19 "longest_to" (defScope (top 33)) f cdv A outer s H E) (defBody (top 33)) (b_longest_to c) := by
  have nd := sc_19.nd
  have nm := nm_19
  have hk := hr.mono (Nat.le_add_right k 4)
  exact qss_one (qs_ret (q_callTy c_tuple T.f_tuple bt_tuple (qa_cons (q_call (KA 18 "levels_in" 1 rfl) hk (qa_cons (q_ix hr (q_call (KA 4 "need_history" 1 rfl) hk (qa_cons (q_var 0 nm) (qa_nil))) (q_int)) (qa_nil))) (qa_nil))))
theorem kn_19 {P : Program} {w : World} {K : PySem.W.Frag} {mg : Str → Option Value} {base : Heap} {k : Nat} {c : Orc} (T : Tx P w K mg base) (KA : KnAll P w K mg base tab k c) : Kn P w K mg base (k + 5) "longest_to" 1 (runZ 1 1 (b_longest_to c)) := by
  obtain ⟨fd, F, hb⟩ := T.d_19
  exact ⟨⟨_, fd, ["history"], rfl, fn_z (N := N_19) F sc_19 rfl (fun cdv A outer s H E hr => q_19 T KA hr), T.m_19, F.kp, hb⟩, ary_runZ⟩
theorem kz_19 {P : Program} {w : World} {K : PySem.W.Frag} {mg : Str → Option Value} {base : Heap} (T : Tx P w K mg base) : Kn P w K mg base 0 "longest_to" 1 (fun _ => bad) := by
  obtain ⟨fd, F, hb⟩ := T.d_19
  exact ⟨⟨_, fd, ["history"], rfl, fn_z0 rfl, T.m_19, F.kp, hb⟩, fun _ _ _ => rfl⟩
def N_20 : List Str := ["_law_cell", "_law_k"]
theorem sc_20 : FnScope N_20 ["_law_cell", "_law_k"] (defScope (top 35)) := ⟨rfl, rfl, rfl, by decide +kernel, rfl, by decide +kernel, by decide +kernel⟩
theorem nm_20 : NmOk N_20 := by unfold NmOk; decide +kernel
theorem q_20 {P : Program} {w : World} {K : PySem.W.Frag} {mg : Str → Option Value} {base : Heap} {f : Addr} {cdv : Value} {A : Around} {outer : List PySem.Env} {s : Shared} {H : Hp} {E : XK} {k : Nat} {c : Orc} (T : Tx P w K mg base) (KA : KnAll P w K mg base tab k c) (hr : Room (k + 4) (A.deeper (envOfC "_law_mixed" (defScope (top 35)) s.heap.objs.size f cdv))) :
    QSs (cxOf (L2.CX P w) P w K mg base N_20 "_law_mixed" (defScope (top 35)) f cdv A outer s H E) (defBody (top 35)) (b__law_mixed c) := by
  have nd := sc_20.nd
  have nm := nm_20
  have hk := hr.mono (Nat.le_add_right k 4)
  exact qss_cons (qs_set 0 nd (q_op r_mod (q_callTy c_int T.f_int bt_int (qa_cons (q_var 0 nm) (qa_nil))) (q_int))) (qss_one (qs_ret (q_op r_mod (q_op r_mul (q_op r_mod (q_op r_add (q_op r_add (q_op r_mul (q_var 0 nm) (q_op r_add (q_int) (q_op r_mul (q_op r_mul (q_int) (q_var 1 nm)) (q_var 1 nm)))) (q_op r_mul (q_int) (q_var 1 nm))) (q_int)) (q_int)) (q_int)) (q_int))))
theorem kn_20 {P : Program} {w : World} {K : PySem.W.Frag} {mg : Str → Option Value} {base : Heap} {k : Nat} {c : Orc} (T : Tx P w K mg base) (KA : KnAll P w K mg base tab k c) : Kn P w K mg base (k + 5) "_law_mixed" 2 (runZ 2 2 (b__law_mixed c)) := by
  obtain ⟨fd, F, hb⟩ := T.d_20
  exact ⟨⟨_, fd, ["_law_cell", "_law_k"], rfl, fn_z (N := N_20) F sc_20 rfl (fun cdv A outer s H E hr => q_20 T KA hr), T.m_20, F.kp, hb⟩, ary_runZ⟩
theorem kz_20 {P : Program} {w : World} {K : PySem.W.Frag} {mg : Str → Option Value} {base : Heap} (T : Tx P w K mg base) : Kn P w K mg base 0 "_law_mixed" 2 (fun _ => bad) := by
  obtain ⟨fd, F, hb⟩ := T.d_20
  exact ⟨⟨_, fd, ["_law_cell", "_law_k"], rfl, fn_z0 rfl, T.m_20, F.kp, hb⟩, fun _ _ _ => rfl⟩
def N_21 : List Str := ["_law_script", "_law_cells", "_law_cell"]
theorem sc_21 : FnScope N_21 ["_law_script"] (defScope (top 36)) := ⟨rfl, rfl, rfl, by decide +kernel, rfl, by decide +kernel, by decide +kernel⟩
theorem nm_21 : NmOk N_21 := by unfold NmOk; decide +kernel
theorem q_21 {P : Program} {w : World} {K : PySem.W.Frag} {mg : Str → Option Value} {base : Heap} {f : Addr} {cdv : Value} {A : Around} {outer : List PySem.Env} {s : Shared} {H : Hp} {E : XK} {k : Nat} {c : Orc} (T : Tx P w K mg base) (KA : KnAll P w K mg base tab k c) (hr : Room (k + 4) (A.deeper (envOfC "_law_begin" (defScope (top 36)) s.heap.objs.size f cdv))) :
    QSs (cxOf (L2.CX P w) P w K mg base N_21 "_law_begin" (defScope (top 36)) f cdv A outer s H E) (defBody (top 36)) (b__law_begin c) := by
  have nd := sc_21.nd
  have nm := nm_21
  have hk := hr.mono (Nat.le_add_right k 4)
  exact qss_cons (qs_set 1 nd (q_if (qt_cmp (b_fPD _) (r_ne hr) (q_var 0 nm) (q_lst (qa_nil)) (nomark _)) (q_callTy c_list T.f_list bt_list (qa_cons (q_var 0 nm) (qa_nil))) (q_lst (qa_cons (q_int) (qa_nil))))) (qss_one (qs_ret (q_dict ⟨q_str, q_var 1 nm, q_str, q_lc [("_law_cell", 2)] rfl nd (qi_seq (q_var 1 nm)) (blkOk_by (by kernel_rfl)) (fun _ _ _ _ _ => qg_name 2 nd) (fun _ _ _ _ _ => qts_nil) (fun _ _ _ _ _ => q_if (qt_cmp b_ge r_ge (q_var 2 nm) (q_op r_pow (q_int) (q_int)) (nomark _)) (q_var 2 nm) (q_int)) (by decide), q_str, q_int, q_str, q_int, trivial⟩)))
theorem kn_21 {P : Program} {w : World} {K : PySem.W.Frag} {mg : Str → Option Value} {base : Heap} {k : Nat} {c : Orc} (T : Tx P w K mg base) (KA : KnAll P w K mg base tab k c) : Kn P w K mg base (k + 5) "_law_begin" 1 (runZ 1 3 (b__law_begin c)) := by
  obtain ⟨fd, F, hb⟩ := T.d_21
  exact ⟨⟨_, fd, ["_law_script"], rfl, fn_z (N := N_21) F sc_21 rfl (fun cdv A outer s H E hr => q_21 T KA hr), T.m_21, F.kp, hb⟩, ary_runZ⟩
theorem kz_21 {P : Program} {w : World} {K : PySem.W.Frag} {mg : Str → Option Value} {base : Heap} (T : Tx P w K mg base) : Kn P w K mg base 0 "_law_begin" 1 (fun _ => bad) := by
  obtain ⟨fd, F, hb⟩ := T.d_21
  exact ⟨⟨_, fd, ["_law_script"], rfl, fn_z0 rfl, T.m_21, F.kp, hb⟩, fun _ _ _ => rfl⟩
def N_22 : List Str := ["_law_state", "_law_many", "_law_at", "_law_place", "_law_left", "_law_number"]
theorem sc_22 : FnScope N_22 ["_law_state", "_law_many"] (defScope (top 37)) := ⟨rfl, rfl, rfl, by decide +kernel, rfl, by decide +kernel, by decide +kernel⟩
theorem nm_22 : NmOk N_22 := by unfold NmOk; decide +kernel
theorem q_22 {P : Program} {w : World} {K : PySem.W.Frag} {mg : Str → Option Value} {base : Heap} {f : Addr} {cdv : Value} {A : Around} {outer : List PySem.Env} {s : Shared} {H : Hp} {E : XK} {k : Nat} {c : Orc} (T : Tx P w K mg base) (KA : KnAll P w K mg base tab k c) (hr : Room (k + 4) (A.deeper (envOfC "_law_draw" (defScope (top 37)) s.heap.objs.size f cdv))) :
    QSs (cxOf (L2.CX P w) P w K mg base N_22 "_law_draw" (defScope (top 37)) f cdv A outer s H E) (defBody (top 37)) (b__law_draw c) := by
  have nd := sc_22.nd
  have nm := nm_22
  have hk := hr.mono (Nat.le_add_right k 4)
  exact qss_cons (qs_set 2 nd (q_ix hr (q_var 0 nm) (q_str))) (qss_cons (qs_sub hr (q_var 0 nm) (q_str) (q_op r_add (q_var 2 nm) (q_int))) (qss_cons (qs_set 3 nd (q_op r_mod (q_callTy c_int T.f_int bt_int (qa_cons (q_var 2 nm) (qa_nil))) (q_callB c_len T.f_len bb_len (qa_cons (q_ix hr (q_var 0 nm) (q_str)) (qa_nil))))) (qss_cons (qs_set 4 nd (q_ix hr (q_ix hr (q_var 0 nm) (q_str)) (q_var 3 nm))) (qss_cons (qs_if (qt_cmp b_gt r_gt (q_var 4 nm) (q_int) (nomark _)) (qss_cons (qs_sub hr (q_ix hr (q_var 0 nm) (q_str)) (q_var 3 nm) (q_op r_fdiv (q_var 4 nm) (q_var 1 nm))) (qss_one (qs_ret (q_op r_mod (q_callTy c_int T.f_int bt_int (qa_cons (q_var 4 nm) (qa_nil))) (q_var 1 nm))))) (qss_nil)) (qss_cons (qs_set 5 nd (q_call (KA 20 "_law_mixed" 2 rfl) hk (qa_cons (q_call (KA 20 "_law_mixed" 2 rfl) hk (qa_cons (q_ix hr (q_ix hr (q_var 0 nm) (q_str)) (q_var 3 nm)) (qa_cons (q_var 2 nm) (qa_nil)))) (qa_cons (q_op r_add (q_int) (q_var 2 nm)) (qa_nil))))) (qss_one (qs_ret (q_op r_mod (q_op r_fdiv (q_callTy c_int T.f_int bt_int (qa_cons (q_op r_add (q_op r_mul (q_var 5 nm) (q_int)) (q_call (KA 20 "_law_mixed" 2 rfl) hk (qa_cons (q_var 5 nm) (qa_cons (q_op r_add (q_int) (q_var 2 nm)) (qa_nil))))) (qa_nil))) (q_int)) (q_var 1 nm)))))))))
theorem kn_22 {P : Program} {w : World} {K : PySem.W.Frag} {mg : Str → Option Value} {base : Heap} {k : Nat} {c : Orc} (T : Tx P w K mg base) (KA : KnAll P w K mg base tab k c) : Kn P w K mg base (k + 5) "_law_draw" 2 (runZ 2 6 (b__law_draw c)) := by
  obtain ⟨fd, F, hb⟩ := T.d_22
  exact ⟨⟨_, fd, ["_law_state", "_law_many"], rfl, fn_z (N := N_22) F sc_22 rfl (fun cdv A outer s H E hr => q_22 T KA hr), T.m_22, F.kp, hb⟩, ary_runZ⟩
theorem kz_22 {P : Program} {w : World} {K : PySem.W.Frag} {mg : Str → Option Value} {base : Heap} (T : Tx P w K mg base) : Kn P w K mg base 0 "_law_draw" 2 (fun _ => bad) := by
  obtain ⟨fd, F, hb⟩ := T.d_22
  exact ⟨⟨_, fd, ["_law_state", "_law_many"], rfl, fn_z0 rfl, T.m_22, F.kp, hb⟩, fun _ _ _ => rfl⟩
def N_23 : List Str := ["_law_state", "_law_some"]
theorem sc_23 : FnScope N_23 ["_law_state", "_law_some"] (defScope (top 38)) := ⟨rfl, rfl, rfl, by decide +kernel, rfl, by decide +kernel, by decide +kernel⟩
theorem nm_23 : NmOk N_23 := by unfold NmOk; decide +kernel
theorem q_23 {P : Program} {w : World} {K : PySem.W.Frag} {mg : Str → Option Value} {base : Heap} {f : Addr} {cdv : Value} {A : Around} {outer : List PySem.Env} {s : Shared} {H : Hp} {E : XK} {k : Nat} {c : Orc} (T : Tx P w K mg base) (KA : KnAll P w K mg base tab k c) (hr : Room (k + 4) (A.deeper (envOfC "_law_of" (defScope (top 38)) s.heap.objs.size f cdv))) :
    QSs (cxOf (L2.CX P w) P w K mg base N_23 "_law_of" (defScope (top 38)) f cdv A outer s H E) (defBody (top 38)) (b__law_of c) := by
  have nd := sc_23.nd
  have nm := nm_23
  have hk := hr.mono (Nat.le_add_right k 4)
  exact qss_one (qs_ret (q_ix hr (q_var 1 nm) (q_call (KA 22 "_law_draw" 2 rfl) hk (qa_cons (q_var 0 nm) (qa_cons (q_callB c_len T.f_len bb_len (qa_cons (q_var 1 nm) (qa_nil))) (qa_nil))))))
theorem kn_23 {P : Program} {w : World} {K : PySem.W.Frag} {mg : Str → Option Value} {base : Heap} {k : Nat} {c : Orc} (T : Tx P w K mg base) (KA : KnAll P w K mg base tab k c) : Kn P w K mg base (k + 5) "_law_of" 2 (runZ 2 2 (b__law_of c)) := by
  obtain ⟨fd, F, hb⟩ := T.d_23
  exact ⟨⟨_, fd, ["_law_state", "_law_some"], rfl, fn_z (N := N_23) F sc_23 rfl (fun cdv A outer s H E hr => q_23 T KA hr), T.m_23, F.kp, hb⟩, ary_runZ⟩
theorem kz_23 {P : Program} {w : World} {K : PySem.W.Frag} {mg : Str → Option Value} {base : Heap} (T : Tx P w K mg base) : Kn P w K mg base 0 "_law_of" 2 (fun _ => bad) := by
  obtain ⟨fd, F, hb⟩ := T.d_23
  exact ⟨⟨_, fd, ["_law_state", "_law_some"], rfl, fn_z0 rfl, T.m_23, F.kp, hb⟩, fun _ _ _ => rfl⟩
def N_24 : List Str := ["_law_near", "_law_far"]
theorem sc_24 : FnScope N_24 ["_law_near", "_law_far"] (defScope (top 39)) := ⟨rfl, rfl, rfl, by decide +kernel, rfl, by decide +kernel, by decide +kernel⟩
theorem nm_24 : NmOk N_24 := by unfold NmOk; decide +kernel
theorem q_24 {P : Program} {w : World} {K : PySem.W.Frag} {mg : Str → Option Value} {base : Heap} {f : Addr} {cdv : Value} {A : Around} {outer : List PySem.Env} {s : Shared} {H : Hp} {E : XK} {k : Nat} {c : Orc} (T : Tx P w K mg base) (KA : KnAll P w K mg base tab k c) (hr : Room (k + 4) (A.deeper (envOfC "_law_in" (defScope (top 39)) s.heap.objs.size f cdv))) :
    QSs (cxOf (L2.CX P w) P w K mg base N_24 "_law_in" (defScope (top 39)) f cdv A outer s H E) (defBody (top 39)) (b__law_in c) := by
  have nd := sc_24.nd
  have nm := nm_24
  have hk := hr.mono (Nat.le_add_right k 4)
  exact qss_one (qs_ret (q_cmp r_lt (q_ix hr (q_ix hr (q_var 0 nm) (q_int)) (q_int)) (q_ix hr (q_ix hr (q_var 1 nm) (q_int)) (q_int)) (nomark _)))
theorem kn_24 {P : Program} {w : World} {K : PySem.W.Frag} {mg : Str → Option Value} {base : Heap} {k : Nat} {c : Orc} (T : Tx P w K mg base) (KA : KnAll P w K mg base tab k c) : Kn P w K mg base (k + 5) "_law_in" 2 (runZ 2 2 (b__law_in c)) := by
  obtain ⟨fd, F, hb⟩ := T.d_24
  exact ⟨⟨_, fd, ["_law_near", "_law_far"], rfl, fn_z (N := N_24) F sc_24 rfl (fun cdv A outer s H E hr => q_24 T KA hr), T.m_24, F.kp, hb⟩, ary_runZ⟩
theorem kz_24 {P : Program} {w : World} {K : PySem.W.Frag} {mg : Str → Option Value} {base : Heap} (T : Tx P w K mg base) : Kn P w K mg base 0 "_law_in" 2 (fun _ => bad) := by
  obtain ⟨fd, F, hb⟩ := T.d_24
  exact ⟨⟨_, fd, ["_law_near", "_law_far"], rfl, fn_z0 rfl, T.m_24, F.kp, hb⟩, fun _ _ _ => rfl⟩
def N_25 : List Str := ["_law_near", "_law_far"]
theorem sc_25 : FnScope N_25 ["_law_near", "_law_far"] (defScope (top 40)) := ⟨rfl, rfl, rfl, by decide +kernel, rfl, by decide +kernel, by decide +kernel⟩
theorem nm_25 : NmOk N_25 := by unfold NmOk; decide +kernel
theorem q_25 {P : Program} {w : World} {K : PySem.W.Frag} {mg : Str → Option Value} {base : Heap} {f : Addr} {cdv : Value} {A : Around} {outer : List PySem.Env} {s : Shared} {H : Hp} {E : XK} {k : Nat} {c : Orc} (T : Tx P w K mg base) (KA : KnAll P w K mg base tab k c) (hr : Room (k + 4) (A.deeper (envOfC "_law_out" (defScope (top 40)) s.heap.objs.size f cdv))) :
    QSs (cxOf (L2.CX P w) P w K mg base N_25 "_law_out" (defScope (top 40)) f cdv A outer s H E) (defBody (top 40)) (b__law_out c) := by
  have nd := sc_25.nd
  have nm := nm_25
  have hk := hr.mono (Nat.le_add_right k 4)
  exact qss_cons (qs_if (qt_cmp b_is r_is (q_ix hr (q_var 0 nm) (q_int)) (q_non) (nomark _)) (qss_one (qs_ret (q_bl))) (qss_nil)) (qss_one (qs_ret (q_or (q_cmp r_is (q_ix hr (q_var 1 nm) (q_int)) (q_non) (nomark _)) (q_one (q_cmp r_lt (q_ix hr (q_ix hr (q_var 0 nm) (q_int)) (q_int)) (q_ix hr (q_ix hr (q_var 1 nm) (q_int)) (q_int)) (nomark _))))))
theorem kn_25 {P : Program} {w : World} {K : PySem.W.Frag} {mg : Str → Option Value} {base : Heap} {k : Nat} {c : Orc} (T : Tx P w K mg base) (KA : KnAll P w K mg base tab k c) : Kn P w K mg base (k + 5) "_law_out" 2 (runZ 2 2 (b__law_out c)) := by
  obtain ⟨fd, F, hb⟩ := T.d_25
  exact ⟨⟨_, fd, ["_law_near", "_law_far"], rfl, fn_z (N := N_25) F sc_25 rfl (fun cdv A outer s H E hr => q_25 T KA hr), T.m_25, F.kp, hb⟩, ary_runZ⟩
theorem kz_25 {P : Program} {w : World} {K : PySem.W.Frag} {mg : Str → Option Value} {base : Heap} (T : Tx P w K mg base) : Kn P w K mg base 0 "_law_out" 2 (fun _ => bad) := by
  obtain ⟨fd, F, hb⟩ := T.d_25
  exact ⟨⟨_, fd, ["_law_near", "_law_far"], rfl, fn_z0 rfl, T.m_25, F.kp, hb⟩, fun _ _ _ => rfl⟩
def N_26 : List Str := ["_law_near", "_law_far"]
theorem sc_26 : FnScope N_26 ["_law_near", "_law_far"] (defScope (top 41)) := ⟨rfl, rfl, rfl, by decide +kernel, rfl, by decide +kernel, by decide +kernel⟩
theorem nm_26 : NmOk N_26 := by unfold NmOk; decide +kernel
theorem q_26 {P : Program} {w : World} {K : PySem.W.Frag} {mg : Str → Option Value} {base : Heap} {f : Addr} {cdv : Value} {A : Around} {outer : List PySem.Env} {s : Shared} {H : Hp} {E : XK} {k : Nat} {c : Orc} (T : Tx P w K mg base) (KA : KnAll P w K mg base tab k c) (hr : Room (k + 4) (A.deeper (envOfC "_law_turned" (defScope (top 41)) s.heap.objs.size f cdv))) :
    QSs (cxOf (L2.CX P w) P w K mg base N_26 "_law_turned" (defScope (top 41)) f cdv A outer s H E) (defBody (top 41)) (b__law_turned c) := by
  have nd := sc_26.nd
  have nm := nm_26
  have hk := hr.mono (Nat.le_add_right k 4)
  exact qss_one (qs_ret (q_and (q_call (KA 24 "_law_in" 2 rfl) hk (qa_cons (q_var 0 nm) (qa_cons (q_var 1 nm) (qa_nil)))) (q_one (q_call (KA 25 "_law_out" 2 rfl) hk (qa_cons (q_var 1 nm) (qa_cons (q_var 0 nm) (qa_nil)))))))
theorem kn_26 {P : Program} {w : World} {K : PySem.W.Frag} {mg : Str → Option Value} {base : Heap} {k : Nat} {c : Orc} (T : Tx P w K mg base) (KA : KnAll P w K mg base tab k c) : Kn P w K mg base (k + 5) "_law_turned" 2 (runZ 2 2 (b__law_turned c)) := by
  obtain ⟨fd, F, hb⟩ := T.d_26
  exact ⟨⟨_, fd, ["_law_near", "_law_far"], rfl, fn_z (N := N_26) F sc_26 rfl (fun cdv A outer s H E hr => q_26 T KA hr), T.m_26, F.kp, hb⟩, ary_runZ⟩
theorem kz_26 {P : Program} {w : World} {K : PySem.W.Frag} {mg : Str → Option Value} {base : Heap} (T : Tx P w K mg base) : Kn P w K mg base 0 "_law_turned" 2 (fun _ => bad) := by
  obtain ⟨fd, F, hb⟩ := T.d_26
  exact ⟨⟨_, fd, ["_law_near", "_law_far"], rfl, fn_z0 rfl, T.m_26, F.kp, hb⟩, fun _ _ _ => rfl⟩
def N_27 : List Str := ["_law_thing"]
theorem sc_27 : FnScope N_27 ["_law_thing"] (defScope (top 42)) := ⟨rfl, rfl, rfl, by decide +kernel, rfl, by decide +kernel, by decide +kernel⟩
theorem nm_27 : NmOk N_27 := by unfold NmOk; decide +kernel
theorem q_27 {P : Program} {w : World} {K : PySem.W.Frag} {mg : Str → Option Value} {base : Heap} {f : Addr} {cdv : Value} {A : Around} {outer : List PySem.Env} {s : Shared} {H : Hp} {E : XK} {k : Nat} {c : Orc} (T : Tx P w K mg base) (KA : KnAll P w K mg base tab k c) (hr : Room (k + 4) (A.deeper (envOfC "_law_early" (defScope (top 42)) s.heap.objs.size f cdv))) :
    QSs (cxOf (L2.CX P w) P w K mg base N_27 "_law_early" (defScope (top 42)) f cdv A outer s H E) (defBody (top 42)) (b__law_early c) := by
  have nd := sc_27.nd
  have nm := nm_27
  have hk := hr.mono (Nat.le_add_right k 4)
  exact qss_one (qs_ret (q_and (q_cmp r_isNot (q_ix hr (q_var 0 nm) (q_int)) (q_non) (nomark _)) (q_one (q_cmp r_lt (q_ix hr (q_ix hr (q_var 0 nm) (q_int)) (q_int)) (q_ix hr (q_ix hr (q_var 0 nm) (q_int)) (q_int)) (nomark _)))))
theorem kn_27 {P : Program} {w : World} {K : PySem.W.Frag} {mg : Str → Option Value} {base : Heap} {k : Nat} {c : Orc} (T : Tx P w K mg base) (KA : KnAll P w K mg base tab k c) : Kn P w K mg base (k + 5) "_law_early" 1 (runZ 1 1 (b__law_early c)) := by
  obtain ⟨fd, F, hb⟩ := T.d_27
  exact ⟨⟨_, fd, ["_law_thing"], rfl, fn_z (N := N_27) F sc_27 rfl (fun cdv A outer s H E hr => q_27 T KA hr), T.m_27, F.kp, hb⟩, ary_runZ⟩
theorem kz_27 {P : Program} {w : World} {K : PySem.W.Frag} {mg : Str → Option Value} {base : Heap} (T : Tx P w K mg base) : Kn P w K mg base 0 "_law_early" 1 (fun _ => bad) := by
  obtain ⟨fd, F, hb⟩ := T.d_27
  exact ⟨⟨_, fd, ["_law_thing"], rfl, fn_z0 rfl, T.m_27, F.kp, hb⟩, fun _ _ _ => rfl⟩
def N_28 : List Str := ["_law_some", "_law_k", "_law_near", "_law_far"]
theorem sc_28 : FnScope N_28 ["_law_some"] (defScope (top 43)) := ⟨rfl, rfl, rfl, by decide +kernel, rfl, by decide +kernel, by decide +kernel⟩
theorem nm_28 : NmOk N_28 := by unfold NmOk; decide +kernel
theorem q_28 {P : Program} {w : World} {K : PySem.W.Frag} {mg : Str → Option Value} {base : Heap} {f : Addr} {cdv : Value} {A : Around} {outer : List PySem.Env} {s : Shared} {H : Hp} {E : XK} {k : Nat} {c : Orc} (T : Tx P w K mg base) (KA : KnAll P w K mg base tab k c) (hr : Room (k + 4) (A.deeper (envOfC "_law_lot_right" (defScope (top 43)) s.heap.objs.size f cdv))) :
    QSs (cxOf (L2.CX P w) P w K mg base N_28 "_law_lot_right" (defScope (top 43)) f cdv A outer s H E) (defBody (top 43)) (b__law_lot_right c) := by
  have nd := sc_28.nd
  have nm := nm_28
  have hk := hr.mono (Nat.le_add_right k 4)
  exact qss_cons (qs_for pOwn rfl (qi_enm T.f_enumerate (qa_cons (q_var 0 nm) (qa_nil))) (qg_tup rfl (qgs_cons (qg_name 1 nd) (qgs_cons (qg_name 2 nd) (qgs_nil))) (gl_cons (gl_cons (gl_nil)))) (qss_cons (qs_if (qt_val (q_call (KA 27 "_law_early" 1 rfl) hk (qa_cons (q_var 2 nm) (qa_nil)))) (qss_one (qs_ret (q_bl))) (qss_nil)) (qss_one (qs_if (qt_cmp (b_fPD _) (r_ne hr) (q_lc [("_law_far", 3)] rfl nd (qi_seq (q_slice (q_var 0 nm) qo_none (qo_some (q_var 1 nm)))) (blkOk_by (by kernel_rfl)) (fun _ _ _ _ _ => qg_name 3 nd) (fun _ _ _ _ _ => qts_one ((qw_or (qt_val (q_call (KA 26 "_law_turned" 2 rfl) hk (qa_cons (q_var 2 nm) (qa_cons (q_var 3 nm) (qa_nil))))) (qw_or1 (qt_val (q_call (KA 26 "_law_turned" 2 rfl) hk (qa_cons (q_var 3 nm) (qa_cons (q_var 2 nm) (qa_nil))))))).t)) (fun _ _ _ _ _ => q_int) (by decide)) (q_lst (qa_nil)) (nomark _)) (qss_one (qs_ret (q_bl))) (qss_nil))))) (qss_one (qs_ret (q_bl)))
theorem kn_28 {P : Program} {w : World} {K : PySem.W.Frag} {mg : Str → Option Value} {base : Heap} {k : Nat} {c : Orc} (T : Tx P w K mg base) (KA : KnAll P w K mg base tab k c) : Kn P w K mg base (k + 5) "_law_lot_right" 1 (runZ 1 4 (b__law_lot_right c)) := by
  obtain ⟨fd, F, hb⟩ := T.d_28
  exact ⟨⟨_, fd, ["_law_some"], rfl, fn_z (N := N_28) F sc_28 rfl (fun cdv A outer s H E hr => q_28 T KA hr), T.m_28, F.kp, hb⟩, ary_runZ⟩
theorem kz_28 {P : Program} {w : World} {K : PySem.W.Frag} {mg : Str → Option Value} {base : Heap} (T : Tx P w K mg base) : Kn P w K mg base 0 "_law_lot_right" 1 (fun _ => bad) := by
  obtain ⟨fd, F, hb⟩ := T.d_28
  exact ⟨⟨_, fd, ["_law_some"], rfl, fn_z0 rfl, T.m_28, F.kp, hb⟩, fun _ _ _ => rfl⟩
def N_29 : List Str := ["_law_state", "_law_tick", "_law_most"]
theorem sc_29 : FnScope N_29 ["_law_state", "_law_tick", "_law_most"] (defScope (top 44)) := ⟨rfl, rfl, rfl, by decide +kernel, rfl, by decide +kernel, by decide +kernel⟩
theorem nm_29 : NmOk N_29 := by unfold NmOk; decide +kernel
theorem q_29 {P : Program} {w : World} {K : PySem.W.Frag} {mg : Str → Option Value} {base : Heap} {f : Addr} {cdv : Value} {A : Around} {outer : List PySem.Env} {s : Shared} {H : Hp} {E : XK} {k : Nat} {c : Orc} (T : Tx P w K mg base) (KA : KnAll P w K mg base tab k c) (hr : Room (k + 4) (A.deeper (envOfC "_law_call" (defScope (top 44)) s.heap.objs.size f cdv))) :
    QSs (cxOf (L2.CX P w) P w K mg base N_29 "_law_call" (defScope (top 44)) f cdv A outer s H E) (defBody (top 44)) (b__law_call c) := by
  have nd := sc_29.nd
  have nm := nm_29
  have hk := hr.mono (Nat.le_add_right k 4)
  exact qss_one (qs_ret (q_tup (qa_cons (q_op r_sub (q_var 1 nm) (q_call (KA 22 "_law_draw" 2 rfl) hk (qa_cons (q_var 0 nm) (qa_cons (q_op r_add (q_var 2 nm) (q_int)) (qa_nil))))) (qa_cons (q_op r_add (q_var 1 nm) (q_call (KA 22 "_law_draw" 2 rfl) hk (qa_cons (q_var 0 nm) (qa_cons (q_op r_add (q_var 2 nm) (q_int)) (qa_nil))))) (qa_nil)))))
theorem kn_29 {P : Program} {w : World} {K : PySem.W.Frag} {mg : Str → Option Value} {base : Heap} {k : Nat} {c : Orc} (T : Tx P w K mg base) (KA : KnAll P w K mg base tab k c) : Kn P w K mg base (k + 5) "_law_call" 3 (runZ 3 3 (b__law_call c)) := by
  obtain ⟨fd, F, hb⟩ := T.d_29
  exact ⟨⟨_, fd, ["_law_state", "_law_tick", "_law_most"], rfl, fn_z (N := N_29) F sc_29 rfl (fun cdv A outer s H E hr => q_29 T KA hr), T.m_29, F.kp, hb⟩, ary_runZ⟩
theorem kz_29 {P : Program} {w : World} {K : PySem.W.Frag} {mg : Str → Option Value} {base : Heap} (T : Tx P w K mg base) : Kn P w K mg base 0 "_law_call" 3 (fun _ => bad) := by
  obtain ⟨fd, F, hb⟩ := T.d_29
  exact ⟨⟨_, fd, ["_law_state", "_law_tick", "_law_most"], rfl, fn_z0 rfl, T.m_29, F.kp, hb⟩, fun _ _ _ => rfl⟩
def N_30 : List Str := ["_law_state", "_law_many", "_law_queues", "_law_most", "_law_k", "_law_lines", "_law_things_here", "_law_tick", "_law_spot", "_law_number"]
theorem sc_30 : FnScope N_30 ["_law_state", "_law_many", "_law_queues", "_law_most"] (defScope (top 45)) := ⟨rfl, rfl, rfl, by decide +kernel, rfl, by decide +kernel, by decide +kernel⟩
theorem nm_30 : NmOk N_30 := by unfold NmOk; decide +kernel
theorem q_30 {P : Program} {w : World} {K : PySem.W.Frag} {mg : Str → Option Value} {base : Heap} {f : Addr} {cdv : Value} {A : Around} {outer : List PySem.Env} {s : Shared} {H : Hp} {E : XK} {k : Nat} {c : Orc} (T : Tx P w K mg base) (KA : KnAll P w K mg base tab k c) (hr : Room (k + 4) (A.deeper (envOfC "_law_queued" (defScope (top 45)) s.heap.objs.size f cdv))) :
    QSs (cxOf (L2.CX P w) P w K mg base N_30 "_law_queued" (defScope (top 45)) f cdv A outer s H E) (defBody (top 45)) (b__law_queued c) := by
  have nd := sc_30.nd
  have nm := nm_30
  have hk := hr.mono (Nat.le_add_right k 4)
  exact qss_cons (qs_par3 5 6 7 rfl nd (qa_cons (q_lc [("_law_k", 4)] rfl nd (qi_rng1 T.f_range (qa_cons (q_var 2 nm) (qa_nil))) (blkOk_by (by kernel_rfl)) (fun _ _ _ _ _ => qg_name 4 nd) (fun _ _ _ _ _ => qts_nil) (fun _ _ _ _ _ => q_lst (qa_nil)) (by decide)) (qa_cons (q_lst (qa_nil)) (qa_cons (q_int) (qa_nil))))) (qss_cons (qs_for pOwn rfl (qi_rng1 T.f_range (qa_cons (q_op r_mul (q_int) (q_var 1 nm)) (qa_nil))) (qg_name 4 nd) (qss_cons (qs_set 7 nd (q_op r_add (q_var 7 nm) (q_call (KA 22 "_law_draw" 2 rfl) hk (qa_cons (q_var 0 nm) (qa_cons (q_int) (qa_nil)))))) (qss_cons (qs_set 8 nd (q_call (KA 22 "_law_draw" 2 rfl) hk (qa_cons (q_var 0 nm) (qa_cons (q_var 2 nm) (qa_nil))))) (qss_one (qs_if ((qw_and (qt_cmp b_lt r_lt (q_callB c_len T.f_len bb_len (qa_cons (q_var 6 nm) (qa_nil))) (q_var 1 nm) (nomark _)) (qw_and1 ((qw_or (qt_cmp (b_fPD _) (r_eq hr) (q_ix hr (q_var 5 nm) (q_var 8 nm)) (q_lst (qa_nil)) (nomark _)) (qw_or1 (qt_cmp (b_fPD _) (r_eq hr) (q_call (KA 22 "_law_draw" 2 rfl) hk (qa_cons (q_var 0 nm) (qa_cons (q_int) (qa_nil)))) (q_int) (nomark _)))).t))).t) (qss_cons (qs_expr (q_lm PySem.F.slot_list_append PySem.F.type_list_append m_app (q_ix hr (q_var 5 nm) (q_var 8 nm)) (qa_cons (q_callB c_len T.f_len bb_len (qa_cons (q_var 6 nm) (qa_nil))) (qa_nil)))) (qss_one (qs_expr (q_lm PySem.F.slot_list_append PySem.F.type_list_append m_app (q_var 6 nm) (qa_cons (q_tup (qa_cons (q_call (KA 29 "_law_call" 3 rfl) hk (qa_cons (q_var 0 nm) (qa_cons (q_var 7 nm) (qa_cons (q_var 3 nm) (qa_nil))))) (qa_cons (q_non) (qa_nil)))) (qa_nil)))))) (qss_one (qs_if (qt_cmp (b_fPD _) (r_ne hr) (q_ix hr (q_var 5 nm) (q_var 8 nm)) (q_lst (qa_nil)) (nomark _)) (qss_cons (qs_set 9 nd (q_lm PySem.F.slot_list_pop PySem.F.type_list_pop m_popAt (q_ix hr (q_var 5 nm) (q_var 8 nm)) (qa_cons (q_int) (qa_nil)))) (qss_one (qs_sub hr (q_var 6 nm) (q_var 9 nm) (q_tup (qa_cons (q_ix hr (q_ix hr (q_var 6 nm) (q_var 9 nm)) (q_int)) (qa_cons (q_call (KA 29 "_law_call" 3 rfl) hk (qa_cons (q_var 0 nm) (qa_cons (q_var 7 nm) (qa_cons (q_var 3 nm) (qa_nil))))) (qa_nil))))))) (qss_nil)))))))) (qss_one (qs_ret (q_callTy c_tuple T.f_tuple bt_tuple (qa_cons (q_var 6 nm) (qa_nil))))))
theorem kn_30 {P : Program} {w : World} {K : PySem.W.Frag} {mg : Str → Option Value} {base : Heap} {k : Nat} {c : Orc} (T : Tx P w K mg base) (KA : KnAll P w K mg base tab k c) : Kn P w K mg base (k + 5) "_law_queued" 4 (runZ 4 10 (b__law_queued c)) := by
  obtain ⟨fd, F, hb⟩ := T.d_30
  exact ⟨⟨_, fd, ["_law_state", "_law_many", "_law_queues", "_law_most"], rfl, fn_z (N := N_30) F sc_30 rfl (fun cdv A outer s H E hr => q_30 T KA hr), T.m_30, F.kp, hb⟩, ary_runZ⟩
theorem kz_30 {P : Program} {w : World} {K : PySem.W.Frag} {mg : Str → Option Value} {base : Heap} (T : Tx P w K mg base) : Kn P w K mg base 0 "_law_queued" 4 (fun _ => bad) := by
  obtain ⟨fd, F, hb⟩ := T.d_30
  exact ⟨⟨_, fd, ["_law_state", "_law_many", "_law_queues", "_law_most"], rfl, fn_z0 rfl, T.m_30, F.kp, hb⟩, fun _ _ _ => rfl⟩
def N_31 : List Str := ["_law_state", "_law_many", "_law_rows", "_law_k", "_law_size", "_law_kind", "_law_put", "_law_take"]
theorem sc_31 : FnScope N_31 ["_law_state", "_law_many"] (defScope (top 46)) := ⟨rfl, rfl, rfl, by decide +kernel, rfl, by decide +kernel, by decide +kernel⟩
theorem nm_31 : NmOk N_31 := by unfold NmOk; decide +kernel
theorem q_31 {P : Program} {w : World} {K : PySem.W.Frag} {mg : Str → Option Value} {base : Heap} {f : Addr} {cdv : Value} {A : Around} {outer : List PySem.Env} {s : Shared} {H : Hp} {E : XK} {k : Nat} {c : Orc} (T : Tx P w K mg base) (KA : KnAll P w K mg base tab k c) (hr : Room (k + 4) (A.deeper (envOfC "_law_things" (defScope (top 46)) s.heap.objs.size f cdv))) :
    QSs (cxOf (L2.CX P w) P w K mg base N_31 "_law_things" (defScope (top 46)) f cdv A outer s H E) (defBody (top 46)) (b__law_things c) := by
  have nd := sc_31.nd
  have nm := nm_31
  have hk := hr.mono (Nat.le_add_right k 4)
  exact qss_cons (qs_par 4 5 rfl nd (qa_cons (q_op r_add (q_int) (q_call (KA 22 "_law_draw" 2 rfl) hk (qa_cons (q_var 0 nm) (qa_cons (q_var 1 nm) (qa_nil))))) (qa_cons (q_call (KA 22 "_law_draw" 2 rfl) hk (qa_cons (q_var 0 nm) (qa_cons (q_int) (qa_nil)))) (qa_nil)))) (qss_cons (qs_if (qt_cmp b_lt r_lt (q_var 5 nm) (q_int) (nomark _)) (qss_one (qs_ret (q_call (KA 30 "_law_queued" 4 rfl) hk (qa_cons (q_var 0 nm) (qa_cons (q_var 4 nm) (qa_cons (q_op r_add (q_int) (q_op r_mul (q_int) (q_var 5 nm))) (qa_cons (q_int) (qa_nil)))))))) (qss_nil)) (qss_cons (qs_set 2 nd (q_lst (qa_nil))) (qss_cons (qs_for pOwn rfl (qi_rng1 T.f_range (qa_cons (q_var 4 nm) (qa_nil))) (qg_name 3 nd) (qss_cons (qs_par 6 7 rfl nd (qa_cons (q_call (KA 29 "_law_call" 3 rfl) hk (qa_cons (q_var 0 nm) (qa_cons (q_call (KA 22 "_law_draw" 2 rfl) hk (qa_cons (q_var 0 nm) (qa_cons (q_int) (qa_nil)))) (qa_cons (q_int) (qa_nil))))) (qa_cons (q_call (KA 29 "_law_call" 3 rfl) hk (qa_cons (q_var 0 nm) (qa_cons (q_op r_add (q_int) (q_call (KA 22 "_law_draw" 2 rfl) hk (qa_cons (q_var 0 nm) (qa_cons (q_int) (qa_nil))))) (qa_cons (q_int) (qa_nil))))) (qa_nil)))) (qss_one (qs_expr (q_lm PySem.F.slot_list_append PySem.F.type_list_append m_app (q_var 2 nm) (qa_cons (q_tup (qa_cons (q_var 6 nm) (qa_cons (q_if (qt_cmp b_gt r_gt (q_call (KA 22 "_law_draw" 2 rfl) hk (qa_cons (q_var 0 nm) (qa_cons (q_int) (qa_nil)))) (q_int) (nomark _)) (q_var 7 nm) (q_non)) (qa_nil)))) (qa_nil))))))) (qss_one (qs_ret (q_callTy c_tuple T.f_tuple bt_tuple (qa_cons (q_var 2 nm) (qa_nil))))))))
theorem kn_31 {P : Program} {w : World} {K : PySem.W.Frag} {mg : Str → Option Value} {base : Heap} {k : Nat} {c : Orc} (T : Tx P w K mg base) (KA : KnAll P w K mg base tab k c) : Kn P w K mg base (k + 5) "_law_things" 2 (runZ 2 8 (b__law_things c)) := by
  obtain ⟨fd, F, hb⟩ := T.d_31
  exact ⟨⟨_, fd, ["_law_state", "_law_many"], rfl, fn_z (N := N_31) F sc_31 rfl (fun cdv A outer s H E hr => q_31 T KA hr), T.m_31, F.kp, hb⟩, ary_runZ⟩
theorem kz_31 {P : Program} {w : World} {K : PySem.W.Frag} {mg : Str → Option Value} {base : Heap} (T : Tx P w K mg base) : Kn P w K mg base 0 "_law_things" 2 (fun _ => bad) := by
  obtain ⟨fd, F, hb⟩ := T.d_31
  exact ⟨⟨_, fd, ["_law_state", "_law_many"], rfl, fn_z0 rfl, T.m_31, F.kp, hb⟩, fun _ _ _ => rfl⟩
def N_32 : List Str := ["_law_state", "_law_many", "_law_few", "_law_things_here", "_law_empties", "_law_k"]
theorem sc_32 : FnScope N_32 ["_law_state", "_law_many", "_law_few"] (defScope (top 47)) := ⟨rfl, rfl, rfl, by decide +kernel, rfl, by decide +kernel, by decide +kernel⟩
theorem nm_32 : NmOk N_32 := by unfold NmOk; decide +kernel
theorem q_32 {P : Program} {w : World} {K : PySem.W.Frag} {mg : Str → Option Value} {base : Heap} {f : Addr} {cdv : Value} {A : Around} {outer : List PySem.Env} {s : Shared} {H : Hp} {E : XK} {k : Nat} {c : Orc} (T : Tx P w K mg base) (KA : KnAll P w K mg base tab k c) (hr : Room (k + 4) (A.deeper (envOfC "_law_history" (defScope (top 47)) s.heap.objs.size f cdv))) :
    QSs (cxOf (L2.CX P w) P w K mg base N_32 "_law_history" (defScope (top 47)) f cdv A outer s H E) (defBody (top 47)) (b__law_history c) := by
  have nd := sc_32.nd
  have nm := nm_32
  have hk := hr.mono (Nat.le_add_right k 4)
  exact qss_cons (qs_set 3 nd (q_call (KA 31 "_law_things" 2 rfl) hk (qa_cons (q_var 0 nm) (qa_cons (q_var 1 nm) (qa_nil))))) (qss_cons (qs_setLc 4 [("_law_k", 5)] rfl nd (qi_rng1 T.f_range (qa_cons (q_call (KA 22 "_law_draw" 2 rfl) hk (qa_cons (q_var 0 nm) (qa_cons (q_op r_add (q_var 2 nm) (q_int)) (qa_nil)))) (qa_nil))) (blkOk_by (by kernel_rfl)) (fun _ _ _ _ _ => qg_name 5 nd) (fun _ _ _ _ _ => qts_nil) (fun _ _ _ _ _ => q_call (KA 29 "_law_call" 3 rfl) hk (qa_cons (q_var 0 nm) (qa_cons (q_call (KA 22 "_law_draw" 2 rfl) hk (qa_cons (q_var 0 nm) (qa_cons (q_int) (qa_nil)))) (qa_cons (q_int) (qa_nil))))) (by decide) (sw_true rfl rfl rfl (by decide +kernel))) (qss_one (qs_ret (q_tup (qa_cons (q_var 3 nm) (qa_cons (q_callTy c_tuple T.f_tuple bt_tuple (qa_cons (q_var 4 nm) (qa_nil))) (qa_nil)))))))
theorem kn_32 {P : Program} {w : World} {K : PySem.W.Frag} {mg : Str → Option Value} {base : Heap} {k : Nat} {c : Orc} (T : Tx P w K mg base) (KA : KnAll P w K mg base tab k c) : Kn P w K mg base (k + 5) "_law_history" 3 (runZ 3 6 (b__law_history c)) := by
  obtain ⟨fd, F, hb⟩ := T.d_32
  exact ⟨⟨_, fd, ["_law_state", "_law_many", "_law_few"], rfl, fn_z (N := N_32) F sc_32 rfl (fun cdv A outer s H E hr => q_32 T KA hr), T.m_32, F.kp, hb⟩, ary_runZ⟩
theorem kz_32 {P : Program} {w : World} {K : PySem.W.Frag} {mg : Str → Option Value} {base : Heap} (T : Tx P w K mg base) : Kn P w K mg base 0 "_law_history" 3 (fun _ => bad) := by
  obtain ⟨fd, F, hb⟩ := T.d_32
  exact ⟨⟨_, fd, ["_law_state", "_law_many", "_law_few"], rfl, fn_z0 rfl, T.m_32, F.kp, hb⟩, fun _ _ _ => rfl⟩
def N_33 : List Str := ["_law_things_here", "_law_got", "_law_last", "_law_chains", "_law_size", "_law_longer", "_law_chain", "_law_some", "_law_one"]
theorem sc_33 : FnScope N_33 ["_law_things_here"] (defScope (top 48)) := ⟨rfl, rfl, rfl, by decide +kernel, rfl, by decide +kernel, by decide +kernel⟩
theorem nm_33 : NmOk N_33 := by unfold NmOk; decide +kernel
theorem q_33 {P : Program} {w : World} {K : PySem.W.Frag} {mg : Str → Option Value} {base : Heap} {f : Addr} {cdv : Value} {A : Around} {outer : List PySem.Env} {s : Shared} {H : Hp} {E : XK} {k : Nat} {c : Orc} (T : Tx P w K mg base) (KA : KnAll P w K mg base tab k c) (hr : Room (k + 4) (A.deeper (envOfC "_law_levels" (defScope (top 48)) s.heap.objs.size f cdv))) :
    QSs (cxOf (L2.CX P w) P w K mg base N_33 "_law_levels" (defScope (top 48)) f cdv A outer s H E) (defBody (top 48)) (b__law_levels c) := by
  have nd := sc_33.nd
  have nm := nm_33
  have hk := hr.mono (Nat.le_add_right k 4)
  exact qss_cons (qs_set 1 nd (q_lst (qa_nil))) (qss_cons (qs_for pOwn rfl (qi_rng1 T.f_range (qa_cons (q_callB c_len T.f_len bb_len (qa_cons (q_var 0 nm) (qa_nil))) (qa_nil))) (qg_name 2 nd) (qss_cons (qs_par 3 4 rfl nd (qa_cons (q_lst (qa_cons (q_tup (qa_cons (q_var 2 nm) (qa_nil))) (qa_nil))) (qa_cons (q_int) (qa_nil)))) (qss_cons (qs_while 100000 pOwn (qt_cmp (b_fPD _) (r_ne hr) (q_var 3 nm) (q_lst (qa_nil)) (nomark _)) (qss_cons (qs_set 4 nd (q_op r_add (q_var 4 nm) (q_int))) (qss_cons (qs_set 5 nd (q_lst (qa_nil))) (qss_cons (qs_for pOwn rfl (qi_seq (q_var 3 nm)) (qg_name 6 nd) (qss_cons (qs_setLc 7 [("_law_one", 8)] rfl nd (qi_rng1 T.f_range (qa_cons (q_callB c_len T.f_len bb_len (qa_cons (q_var 0 nm) (qa_nil))) (qa_nil))) (blkOk_by (by kernel_rfl)) (fun _ _ _ _ _ => qg_name 8 nd) (fun _ _ _ _ _ => qts_one (qt_val (q_call (KA 26 "_law_turned" 2 rfl) hk (qa_cons (q_ix hr (q_var 0 nm) (q_var 8 nm)) (qa_cons (q_ix hr (q_var 0 nm) (q_ix hr (q_var 6 nm) (q_int))) (qa_nil)))))) (fun _ _ _ _ _ => q_var 8 nm) (by decide) (sw_true rfl rfl rfl (by decide +kernel))) (qss_one (qs_expr (q_lm PySem.F.slot_list_extend PySem.F.type_list_extend m_ext (q_var 5 nm) (qa_cons (q_lc [("_law_one", 8)] rfl nd (qi_seq (q_var 7 nm)) (blkOk_by (by kernel_rfl)) (fun _ _ _ _ _ => qg_name 8 nd) (fun _ _ _ _ _ => qts_nil) (fun _ _ _ _ _ => q_op r_add (q_tup (qa_cons (q_var 8 nm) (qa_nil))) (q_var 6 nm)) (by decide)) (qa_nil))))))) (qss_one (qs_set 3 nd (q_callB (c_sortedD hr rfl) T.f_sorted bb_sorted (qa_cons (q_callTy (c_dictP hr rfl) T.f_dict bt_dict (qa_cons (q_lc [("_law_chain", 6)] rfl nd (qi_seq (q_var 5 nm)) (blkOk_by (by kernel_rfl)) (fun _ _ _ _ _ => qg_name 6 nd) (fun _ _ _ _ _ => qts_nil) (fun _ _ _ _ _ => q_tup (qa_cons (q_tup (qa_cons (q_ix hr (q_var 6 nm) (q_int)) (qa_nil))) (qa_cons (q_bl) (qa_nil)))) (by decide)) (qa_nil))) (qa_nil))))))))) (qss_one (qs_expr (q_lm PySem.F.slot_list_append PySem.F.type_list_append m_app (q_var 1 nm) (qa_cons (q_var 4 nm) (qa_nil)))))))) (qss_one (qs_ret (q_callTy c_tuple T.f_tuple bt_tuple (qa_cons (q_var 1 nm) (qa_nil))))))
theorem kn_33 {P : Program} {w : World} {K : PySem.W.Frag} {mg : Str → Option Value} {base : Heap} {k : Nat} {c : Orc} (T : Tx P w K mg base) (KA : KnAll P w K mg base tab k c) : Kn P w K mg base (k + 5) "_law_levels" 1 (runZ 1 9 (b__law_levels c)) := by
  obtain ⟨fd, F, hb⟩ := T.d_33
  exact ⟨⟨_, fd, ["_law_things_here"], rfl, fn_z (N := N_33) F sc_33 rfl (fun cdv A outer s H E hr => q_33 T KA hr), T.m_33, F.kp, hb⟩, ary_runZ⟩
theorem kz_33 {P : Program} {w : World} {K : PySem.W.Frag} {mg : Str → Option Value} {base : Heap} (T : Tx P w K mg base) : Kn P w K mg base 0 "_law_levels" 1 (fun _ => bad) := by
  obtain ⟨fd, F, hb⟩ := T.d_33
  exact ⟨⟨_, fd, ["_law_things_here"], rfl, fn_z0 rfl, T.m_33, F.kp, hb⟩, fun _ _ _ => rfl⟩
def N_34 : List Str := ["_law_history_here", "_law_due", "_law_things_here", "_law_pairs", "_law_one", "_law_near", "_law_other", "_law_far", "_law_turn", "_law_thing"]
theorem sc_34 : FnScope N_34 ["_law_history_here"] (defScope (top 49)) := ⟨rfl, rfl, rfl, by decide +kernel, rfl, by decide +kernel, by decide +kernel⟩
theorem nm_34 : NmOk N_34 := by unfold NmOk; decide +kernel
theorem q_34 {P : Program} {w : World} {K : PySem.W.Frag} {mg : Str → Option Value} {base : Heap} {f : Addr} {cdv : Value} {A : Around} {outer : List PySem.Env} {s : Shared} {H : Hp} {E : XK} {k : Nat} {c : Orc} (T : Tx P w K mg base) (KA : KnAll P w K mg base tab k c) (hr : Room (k + 4) (A.deeper (envOfC "_law_history_right" (defScope (top 49)) s.heap.objs.size f cdv))) :
    QSs (cxOf (L2.CX P w) P w K mg base N_34 "_law_history_right" (defScope (top 49)) f cdv A outer s H E) (defBody (top 49)) (b__law_history_right c) := by
  have nd := sc_34.nd
  have nm := nm_34
  have hk := hr.mono (Nat.le_add_right k 4)
  exact qss_cons (qs_asg (q_tup (qa_cons (q_ix hr (q_var 0 nm) (q_int)) (qa_cons (q_lst (qa_nil)) (qa_nil)))) (qg_tup rfl (qgs_cons (qg_name 2 nd) (qgs_cons (qg_name 3 nd) (qgs_nil))) (gl_cons (gl_cons (gl_nil))))) (qss_cons (qs_for pOwn rfl (qi_enm T.f_enumerate (qa_cons (q_var 2 nm) (qa_nil))) (qg_tup rfl (qgs_cons (qg_name 4 nd) (qgs_cons (qg_name 5 nd) (qgs_nil))) (gl_cons (gl_cons (gl_nil)))) (qss_one (qs_for pOwn rfl (qi_enm T.f_enumerate (qa_cons (q_var 2 nm) (qa_nil))) (qg_tup rfl (qgs_cons (qg_name 6 nd) (qgs_cons (qg_name 7 nd) (qgs_nil))) (gl_cons (gl_cons (gl_nil)))) (qss_cons (qs_set 1 nd (q_lst (qa_cons (q_call (KA 24 "_law_in" 2 rfl) hk (qa_cons (q_var 5 nm) (qa_cons (q_var 7 nm) (qa_nil)))) (qa_cons (q_call (KA 25 "_law_out" 2 rfl) hk (qa_cons (q_var 5 nm) (qa_cons (q_var 7 nm) (qa_nil)))) (qa_cons (q_call (KA 26 "_law_turned" 2 rfl) hk (qa_cons (q_var 5 nm) (qa_cons (q_var 7 nm) (qa_nil)))) (qa_nil)))))) (qss_cons (qs_for pOwn rfl (qi_rng1 T.f_range (qa_cons (q_int) (qa_nil))) (qg_name 8 nd) (qss_one (qs_if (qt_cmp (b_fPD _) (r_ne hr) (q_lst (qa_cons (q_call (KA 11 "is_in" 3 rfl) hk (qa_cons (q_var 0 nm) (qa_cons (q_var 4 nm) (qa_cons (q_var 6 nm) (qa_nil))))) (qa_cons (q_call (KA 12 "is_out" 3 rfl) hk (qa_cons (q_var 0 nm) (qa_cons (q_var 4 nm) (qa_cons (q_var 6 nm) (qa_nil))))) (qa_cons (q_call (KA 13 "is_turned" 3 rfl) hk (qa_cons (q_var 0 nm) (qa_cons (q_var 4 nm) (qa_cons (q_var 6 nm) (qa_nil))))) (qa_nil))))) (q_var 1 nm) (nomark _)) (qss_one (qs_ret (q_bl))) (qss_nil)))) (qss_one (qs_set 3 nd (q_op r_add (q_var 3 nm) (q_op r_mul (q_lst (qa_cons (q_tup (qa_cons (q_var 4 nm) (qa_cons (q_var 6 nm) (qa_nil)))) (qa_nil))) (q_callTy c_int T.f_int bt_int (qa_cons (q_ix hr (q_var 1 nm) (q_int)) (qa_nil)))))))))))) (qss_cons (qs_if ((qw_or (qt_cmp (b_fPD _) (r_ne hr) (q_call (KA 15 "turned_pairs" 1 rfl) hk (qa_cons (q_var 0 nm) (qa_nil))) (q_callTy c_tuple T.f_tuple bt_tuple (qa_cons (q_var 3 nm) (qa_nil))) (nomark _)) (qw_or1 (qt_cmp (b_fPD _) (r_ne hr) (q_call (KA 15 "turned_pairs" 1 rfl) hk (qa_cons (q_var 0 nm) (qa_nil))) (q_callTy c_tuple T.f_tuple bt_tuple (qa_cons (q_var 3 nm) (qa_nil))) (nomark _)))).t) (qss_one (qs_ret (q_bl))) (qss_nil)) (qss_cons (qs_for pOwn rfl (qi_seq (q_var 3 nm)) (qg_tup rfl (qgs_cons (qg_name 4 nd) (qgs_cons (qg_name 6 nd) (qgs_nil))) (gl_cons (gl_cons (gl_nil)))) (qss_one (qs_if (qt_cmp (b_fPD _) (r_ne hr) (q_lc [("_law_near", 5), ("_law_far", 7)] rfl nd (qi_seq (q_var 3 nm)) (blkOk_by (by kernel_rfl)) (fun _ _ _ _ _ => qg_tup rfl (qgs_cons (qg_name 5 nd) (qgs_cons (qg_name 7 nd) (qgs_nil))) (gl_cons (gl_cons (gl_nil)))) (fun _ _ _ _ _ => qts_one ((qw_and (qt_cmp (b_fPD _) (r_eq hr) (q_var 5 nm) (q_var 6 nm) (nomark _)) (qw_and1 (qt_cmp (b_fPD _) (r_notIn hr) (q_tup (qa_cons (q_var 4 nm) (qa_cons (q_var 7 nm) (qa_nil)))) (q_var 3 nm) (by rfl)))).t)) (fun _ _ _ _ _ => q_int) (by decide)) (q_lst (qa_nil)) (nomark _)) (qss_one (qs_ret (q_bl))) (qss_nil)))) (qss_cons (qs_set 1 nd (q_callTy c_tuple T.f_tuple bt_tuple (qa_cons (q_lc [("_law_one", 4), ("_law_thing", 9)] rfl nd (qi_enm T.f_enumerate (qa_cons (q_var 2 nm) (qa_nil))) (blkOk_by (by kernel_rfl)) (fun _ _ _ _ _ => qg_tup rfl (qgs_cons (qg_name 4 nd) (qgs_cons (qg_name 9 nd) (qgs_nil))) (gl_cons (gl_cons (gl_nil)))) (fun _ _ _ _ _ => qts_one (qt_val (q_call (KA 27 "_law_early" 1 rfl) hk (qa_cons (q_var 9 nm) (qa_nil))))) (fun _ _ _ _ _ => q_var 4 nm) (by decide)) (qa_nil)))) (qss_cons (qs_if ((qw_or (qt_cmp (b_fPD _) (r_ne hr) (q_call (KA 17 "early" 1 rfl) hk (qa_cons (q_var 0 nm) (qa_nil))) (q_var 1 nm) (nomark _)) (qw_or1 (qt_cmp (b_fPD _) (r_ne hr) (q_call (KA 17 "early" 1 rfl) hk (qa_cons (q_var 0 nm) (qa_nil))) (q_var 1 nm) (nomark _)))).t) (qss_one (qs_ret (q_bl))) (qss_nil)) (qss_one (qs_ret (q_and (q_cmp (r_eq hr) (q_call (KA 19 "longest_to" 1 rfl) hk (qa_cons (q_var 0 nm) (qa_nil))) (q_call (KA 33 "_law_levels" 1 rfl) hk (qa_cons (q_var 2 nm) (qa_nil))) (nomark _)) (q_one (q_cmp (r_eq hr) (q_call (KA 19 "longest_to" 1 rfl) hk (qa_cons (q_var 0 nm) (qa_nil))) (q_call (KA 33 "_law_levels" 1 rfl) hk (qa_cons (q_var 2 nm) (qa_nil))) (nomark _)))))))))))
theorem kn_34 {P : Program} {w : World} {K : PySem.W.Frag} {mg : Str → Option Value} {base : Heap} {k : Nat} {c : Orc} (T : Tx P w K mg base) (KA : KnAll P w K mg base tab k c) : Kn P w K mg base (k + 5) "_law_history_right" 1 (runZ 1 10 (b__law_history_right c)) := by
  obtain ⟨fd, F, hb⟩ := T.d_34
  exact ⟨⟨_, fd, ["_law_history_here"], rfl, fn_z (N := N_34) F sc_34 rfl (fun cdv A outer s H E hr => q_34 T KA hr), T.m_34, F.kp, hb⟩, ary_runZ⟩
theorem kz_34 {P : Program} {w : World} {K : PySem.W.Frag} {mg : Str → Option Value} {base : Heap} (T : Tx P w K mg base) : Kn P w K mg base 0 "_law_history_right" 1 (fun _ => bad) := by
  obtain ⟨fd, F, hb⟩ := T.d_34
  exact ⟨⟨_, fd, ["_law_history_here"], rfl, fn_z0 rfl, T.m_34, F.kp, hb⟩, fun _ _ _ => rfl⟩
def N_35 : List Str := ["_law_script", "_law_state", "_law_turn", "_law_rows", "_law_one", "_law_k"]
theorem sc_35 : FnScope N_35 ["_law_script"] (defScope (top 50)) := ⟨rfl, rfl, rfl, by decide +kernel, rfl, by decide +kernel, by decide +kernel⟩
theorem nm_35 : NmOk N_35 := by unfold NmOk; decide +kernel
theorem q_35 {P : Program} {w : World} {K : PySem.W.Frag} {mg : Str → Option Value} {base : Heap} {f : Addr} {cdv : Value} {A : Around} {outer : List PySem.Env} {s : Shared} {H : Hp} {E : XK} {k : Nat} {c : Orc} (T : Tx P w K mg base) (KA : KnAll P w K mg base tab k c) (hr : Room (k + 4) (A.deeper (envOfC "law" (defScope (top 50)) s.heap.objs.size f cdv))) :
    QSs (cxOf (L2.CX P w) P w K mg base N_35 "law" (defScope (top 50)) f cdv A outer s H E) (defBody (top 50)) (b_law c) := by
  have nd := sc_35.nd
  have nm := nm_35
  have hk := hr.mono (Nat.le_add_right k 4)
  exact qss_cons (qs_set 1 nd (q_call (KA 21 "_law_begin" 1 rfl) hk (qa_cons (q_var 0 nm) (qa_nil)))) (qss_cons (qs_for pOwn rfl (qi_rng1 T.f_range (qa_cons (q_int) (qa_nil))) (qg_name 2 nd) (qss_one (qs_if (qt_not (qt_val (q_call (KA 34 "_law_history_right" 1 rfl) hk (qa_cons (q_call (KA 32 "_law_history" 3 rfl) hk (qa_cons (q_var 1 nm) (qa_cons (q_int) (qa_cons (q_int) (qa_nil))))) (qa_nil))))) (qss_one (qs_ret (q_bl))) (qss_nil)))) (qss_cons (qs_set 3 nd (q_callTy c_tuple T.f_tuple bt_tuple (qa_cons (q_lc [("_law_k", 5)] rfl nd (qi_rng1 T.f_range (qa_cons (q_int) (qa_nil))) (blkOk_by (by kernel_rfl)) (fun _ _ _ _ _ => qg_name 5 nd) (fun _ _ _ _ _ => qts_nil) (fun _ _ _ _ _ => q_tup (qa_cons (q_tup (qa_cons (q_op r_mul (q_int) (q_var 5 nm)) (qa_cons (q_op r_mul (q_int) (q_var 5 nm)) (qa_nil)))) (qa_cons (q_tup (qa_cons (q_op r_sub (q_int) (q_op r_mul (q_int) (q_var 5 nm))) (qa_cons (q_op r_sub (q_int) (q_op r_mul (q_int) (q_var 5 nm))) (qa_nil)))) (qa_nil)))) (by decide)) (qa_nil)))) (qss_cons (qs_if ((qw_or (qt_cmp (b_fPD _) (r_ne hr) (q_call (KA 19 "longest_to" 1 rfl) hk (qa_cons (q_tup (qa_cons (q_var 3 nm) (qa_cons (q_tup (qa_nil)) (qa_nil)))) (qa_nil))) (q_tupR2 rfl T.f_tuple T.f_range (q_int) (q_int)) (nomark _)) (qw_or1 (qt_cmp (b_fPD _) (r_ne hr) (q_callB c_len T.f_len bb_len (qa_cons (q_call (KA 15 "turned_pairs" 1 rfl) hk (qa_cons (q_tup (qa_cons (q_var 3 nm) (qa_cons (q_tup (qa_nil)) (qa_nil)))) (qa_nil))) (qa_nil))) (q_int) (nomark _)))).t) (qss_one (qs_ret (q_bl))) (qss_nil)) (qss_cons (qs_set 4 nd (q_tup (qa_cons (q_tup (qa_cons (q_tup (qa_cons (q_tup (qa_cons (q_int) (qa_cons (q_int) (qa_nil)))) (qa_cons (q_tup (qa_cons (q_int) (qa_cons (q_int) (qa_nil)))) (qa_nil)))) (qa_cons (q_tup (qa_cons (q_tup (qa_cons (q_int) (qa_cons (q_int) (qa_nil)))) (qa_cons (q_tup (qa_cons (q_int) (qa_cons (q_int) (qa_nil)))) (qa_nil)))) (qa_cons (q_tup (qa_cons (q_tup (qa_cons (q_int) (qa_cons (q_int) (qa_nil)))) (qa_cons (q_non) (qa_nil)))) (qa_nil))))) (qa_cons (q_tup (qa_nil)) (qa_nil))))) (qss_one (qs_ret (q_and (q_cmp (r_eq hr) (q_call (KA 17 "early" 1 rfl) hk (qa_cons (q_var 4 nm) (qa_nil))) (q_tup (qa_cons (q_int) (qa_nil))) (nomark _)) (q_and (q_cmp (r_eq hr) (q_call (KA 15 "turned_pairs" 1 rfl) hk (qa_cons (q_var 4 nm) (qa_nil))) (q_tup (qa_nil)) (nomark _)) (q_and (q_cmp r_is (q_call (KA 12 "is_out" 3 rfl) hk (qa_cons (q_var 4 nm) (qa_cons (q_int) (qa_cons (q_int) (qa_nil))))) (q_bl) (nomark _)) (q_one (q_cmp r_is (q_call (KA 11 "is_in" 3 rfl) hk (qa_cons (q_var 4 nm) (qa_cons (q_int) (qa_cons (q_int) (qa_nil))))) (q_bl) (nomark _))))))))))))
theorem kn_35 {P : Program} {w : World} {K : PySem.W.Frag} {mg : Str → Option Value} {base : Heap} {k : Nat} {c : Orc} (T : Tx P w K mg base) (KA : KnAll P w K mg base tab k c) : Kn P w K mg base (k + 5) "law" 1 (runZ 1 6 (b_law c)) := by
  obtain ⟨fd, F, hb⟩ := T.d_35
  exact ⟨⟨_, fd, ["_law_script"], rfl, fn_z (N := N_35) F sc_35 rfl (fun cdv A outer s H E hr => q_35 T KA hr), T.m_35, F.kp, hb⟩, ary_runZ⟩
theorem kz_35 {P : Program} {w : World} {K : PySem.W.Frag} {mg : Str → Option Value} {base : Heap} (T : Tx P w K mg base) : Kn P w K mg base 0 "law" 1 (fun _ => bad) := by
  obtain ⟨fd, F, hb⟩ := T.d_35
  exact ⟨⟨_, fd, ["_law_script"], rfl, fn_z0 rfl, T.m_35, F.kp, hb⟩, fun _ _ _ => rfl⟩
theorem kn_all {P : Program} {w : World} {K : PySem.W.Frag} {mg : Str → Option Value} {base : Heap} (T : Tx P w K mg base) : ∀ k, KnAll P w K mg base tab (5 * k) (callZ bs k)
  | 0 => fun i x n h => by
    match i, h with
    | 0, h => cases h; exact kz_0 T
    | 1, h => cases h; exact kz_1 T
    | 2, h => cases h; exact kz_2 T
    | 3, h => cases h; exact kz_3 T
    | 4, h => cases h; exact kz_4 T
    | 5, h => cases h; exact kz_5 T
    | 6, h => cases h; exact kz_6 T
    | 7, h => cases h; exact kz_7 T
    | 8, h => cases h; exact kz_8 T
    | 9, h => cases h; exact kz_9 T
    | 10, h => cases h; exact kz_10 T
    | 11, h => cases h; exact kz_11 T
    | 12, h => cases h; exact kz_12 T
    | 13, h => cases h; exact kz_13 T
    | 14, h => cases h; exact kz_14 T
    | 15, h => cases h; exact kz_15 T
    | 16, h => cases h; exact kz_16 T
    | 17, h => cases h; exact kz_17 T
    | 18, h => cases h; exact kz_18 T
    | 19, h => cases h; exact kz_19 T
    | 20, h => cases h; exact kz_20 T
    | 21, h => cases h; exact kz_21 T
    | 22, h => cases h; exact kz_22 T
    | 23, h => cases h; exact kz_23 T
    | 24, h => cases h; exact kz_24 T
    | 25, h => cases h; exact kz_25 T
    | 26, h => cases h; exact kz_26 T
    | 27, h => cases h; exact kz_27 T
    | 28, h => cases h; exact kz_28 T
    | 29, h => cases h; exact kz_29 T
    | 30, h => cases h; exact kz_30 T
    | 31, h => cases h; exact kz_31 T
    | 32, h => cases h; exact kz_32 T
    | 33, h => cases h; exact kz_33 T
    | 34, h => cases h; exact kz_34 T
    | 35, h => cases h; exact kz_35 T
    | n + 36, h => cases h
  | k + 1 => fun i x n h => by
    have KA := kn_all T k
    match i, h with
    | 0, h => cases h; exact kn_0 T KA
    | 1, h => cases h; exact kn_1 T KA
    | 2, h => cases h; exact kn_2 T KA
    | 3, h => cases h; exact kn_3 T KA
    | 4, h => cases h; exact kn_4 T KA
    | 5, h => cases h; exact kn_5 T KA
    | 6, h => cases h; exact kn_6 T KA
    | 7, h => cases h; exact kn_7 T KA
    | 8, h => cases h; exact kn_8 T KA
    | 9, h => cases h; exact kn_9 T KA
    | 10, h => cases h; exact kn_10 T KA
    | 11, h => cases h; exact kn_11 T KA
    | 12, h => cases h; exact kn_12 T KA
    | 13, h => cases h; exact kn_13 T KA
    | 14, h => cases h; exact kn_14 T KA
    | 15, h => cases h; exact kn_15 T KA
    | 16, h => cases h; exact kn_16 T KA
    | 17, h => cases h; exact kn_17 T KA
    | 18, h => cases h; exact kn_18 T KA
    | 19, h => cases h; exact kn_19 T KA
    | 20, h => cases h; exact kn_20 T KA
    | 21, h => cases h; exact kn_21 T KA
    | 22, h => cases h; exact kn_22 T KA
    | 23, h => cases h; exact kn_23 T KA
    | 24, h => cases h; exact kn_24 T KA
    | 25, h => cases h; exact kn_25 T KA
    | 26, h => cases h; exact kn_26 T KA
    | 27, h => cases h; exact kn_27 T KA
    | 28, h => cases h; exact kn_28 T KA
    | 29, h => cases h; exact kn_29 T KA
    | 30, h => cases h; exact kn_30 T KA
    | 31, h => cases h; exact kn_31 T KA
    | 32, h => cases h; exact kn_32 T KA
    | 33, h => cases h; exact kn_33 T KA
    | 34, h => cases h; exact kn_34 T KA
    | 35, h => cases h; exact kn_35 T KA
    | n + 36, h => cases h
end L2.Z.Lw

set_option Elab.async false
set_option linter.all false
set_option maxRecDepth 100000
set_option maxHeartbeats 0
namespace L2.Z.Lw
open PySem PySem.Spec PyProof.Rows
def dAt (i : Nat) (n : Str) : He.DefD := ⟨(n, none), n, n, defArgs (top i), defBody (top i), defScope (top i), [], []⟩
def iAt (i j : Nat) (n : Str) : He.DefD := ⟨(n, some "__init__"), "__init__", n ++ ".__init__", defArgs (clsAt (top i) j), defBody (clsAt (top i) j), defScope (clsAt (top i) j), [], []⟩
def fn0 : List He.DefD := [dAt 13 "is_integer", dAt 14 "is_between", dAt 15 "is_call", dAt 16 "is_thing", dAt 17 "need_history", dAt 18 "need_number_of", dAt 20 "is_in_ahead", dAt 21 "is_out_ahead", dAt 22 "is_turned_with", dAt 23 "is_early", dAt 24 "need_two", dAt 25 "is_in", dAt 26 "is_out", dAt 27 "is_turned", dAt 28 "pairs_in", dAt 29 "turned_pairs", dAt 30 "early_in", dAt 31 "early", dAt 32 "levels_in", dAt 33 "longest_to"]
def fn1 : List He.DefD := [dAt 35 "_law_mixed", dAt 36 "_law_begin", dAt 37 "_law_draw", dAt 38 "_law_of", dAt 39 "_law_in", dAt 40 "_law_out", dAt 41 "_law_turned", dAt 42 "_law_early", dAt 43 "_law_lot_right", dAt 44 "_law_call", dAt 45 "_law_queued", dAt 46 "_law_things", dAt 47 "_law_history", dAt 48 "_law_levels", dAt 49 "_law_history_right", dAt 50 "law", iAt 2 0 "BadHistory", iAt 3 0 "BadNumber"]
def fn : List He.DefD := fn0 ++ fn1
def fa0 : List He.Fa := [.glo "is_integer", .glo "is_between", .glo "is_call", .glo "is_thing", .glo "need_history", .glo "need_number_of", .glo "is_in_ahead", .glo "is_out_ahead", .glo "is_turned_with", .glo "is_early", .glo "need_two", .glo "is_in", .glo "is_out", .glo "is_turned", .glo "pairs_in", .glo "turned_pairs", .glo "early_in", .glo "early", .glo "levels_in", .glo "longest_to"]
def fa1 : List He.Fa := [.glo "_law_mixed", .glo "_law_begin", .glo "_law_draw", .glo "_law_of", .glo "_law_in", .glo "_law_out", .glo "_law_turned", .glo "_law_early", .glo "_law_lot_right", .glo "_law_call", .glo "_law_queued", .glo "_law_things", .glo "_law_history", .glo "_law_levels", .glo "_law_history_right", .glo "law", .glo "QueueError", .glo "BadHistory", .glo "BadNumber", .int "MOST_TICK" 1000000000]
def fa2 : List He.Fa := [.int "MOST_THINGS" 12, .int "MOST_EMPTIES" 8, .str "FORM" "form", .str "THINGS" "things", .str "THING" "thing", .str "EMPTIES" "empties", .str "EMPTY" "empty", .free "all", .free "bool", .free "dict", .free "enumerate", .free "int", .free "isinstance", .free "len", .free "list", .free "max", .free "range", .free "sorted", .free "tuple", .meth "BadHistory" "__init__"]
def fa3 : List He.Fa := [.noat "BadHistory" "part", .meth "BadNumber" "__init__", .noat "BadNumber" "given"]
def fa : List He.Fa := fa0 ++ fa1 ++ fa2 ++ fa3
def lo0 : List PySem.Str := ["QueueError", "BadHistory", "BadNumber", "MOST_TICK", "MOST_THINGS", "MOST_EMPTIES", "FORM", "THINGS", "THING", "EMPTIES", "EMPTY", "is_integer", "is_between", "is_call", "is_thing", "need_history", "need_number_of", "is_in_ahead", "is_out_ahead", "is_turned_with", "is_early", "need_two", "is_in", "is_out", "is_turned", "pairs_in", "turned_pairs", "early_in", "early", "levels_in"]
def lo1 : List PySem.Str := ["longest_to", "_law_mixed", "_law_begin", "_law_draw", "_law_of", "_law_in", "_law_out", "_law_turned", "_law_early", "_law_lot_right", "_law_call", "_law_queued", "_law_things", "_law_history", "_law_levels", "_law_history_right"]
def lo : List PySem.Str := lo0 ++ lo1
def tf : List He.Defn := []
def ex (K : PySem.W.Frag) : Bool := [nodupB (tf.map fun p => (He.cT K p).2), subL.all (fun q => decide (PySem.W.exmOne K (.ref (He.ga K q.1.1)) (.ref (He.ga K q.1.2)) = some q.2)), xcs.all (fun x => xfB K (He.ga K x)), oxB K (He.ga K "BadHistory") "ValueError.__new__" PySem.HandSPX.veTail, oxB K (He.ga K "BadNumber") "ValueError.__new__" PySem.HandSPX.veTail, ownBB K (He.ga K "QueueError") "ValueError.__init__"].all id
abbrev R : PySem.W.OpenRow := PySem.W.OpenLaw.row PySem.Challenge.rw_fewqueues_k03_whole_turns
abbrev hk : PySem.W.Hook := hookZ 5 fa fn [] tf ex
def ob (s : PySem.W.SharedT) : He.AlX := obsZ 5 fa fn [] tf ex (HandSHeadRun.getT s)
theorem ob_eq (s : PySem.W.SharedT) : ob s = hk.obs s.abs := obsZ_eq (HandSHeadRun.getT_eq s)
theorem run (w : World) : HandSHeadRun.RunEq R (PySem.W.view R.prog [50]) hk ob 3000 lo w := by
  intro os
  kernel_rfl
theorem ex_at {K : PySem.W.Frag} (h : ex K = true) (i : Nat) {b : Bool} (e : ([nodupB (tf.map fun p => (He.cT K p).2), subL.all (fun q => decide (PySem.W.exmOne K (.ref (He.ga K q.1.1)) (.ref (He.ga K q.1.2)) = some q.2)), xcs.all (fun x => xfB K (He.ga K x)), oxB K (He.ga K "BadHistory") "ValueError.__new__" PySem.HandSPX.veTail, oxB K (He.ga K "BadNumber") "ValueError.__new__" PySem.HandSPX.veTail, ownBB K (He.ga K "QueueError") "ValueError.__init__"] : List Bool)[i]? = some b) : b = true := by
  have := List.all_eq_true.mp h b (List.mem_of_getElem? e)
  exact this
theorem kx_BadHistory {P : Program} {w : World} {K : PySem.W.Frag} {mg : Str → Option Value} {base h : Heap} [HasT] (X : K.In h) (G : h.Ns mainGlobals mg) (c : He.SaysX fa fn [] tf ex w h K) : KX P w K mg base "BadHistory" ["part"] := by
  obtain ⟨fd, F⟩ := c.t.d.def_ 36 (d := iAt 2 0 "BadHistory") rfl
  have m := He.meth_ok (c.t.d.fact 59 (f := .meth "BadHistory" "__init__") rfl)
  refine ⟨⟨"ValueError", "ValueError.__new__", "ValueError.__init__", PySem.HandSPX.veTail, _, fd, ["self", "part"], bas_VE, oxB_ok (ex_at c.more 3 rfl), He.glo_ok X G (c.t.d.fact 37 (f := .glo "BadHistory") rfl), m.at_, beq_iff_eq.mp m.fn, ?_, FunD.bindsN F fun _ _ _ _ _ _ us hl => match us, hl with | [_, _], _ => rfl⟩⟩
  exact init_1 bas_VE (oxB_ok (ex_at c.more 3 rfl)) (He.noat_ok (c.t.d.fact 60 (f := .noat "BadHistory" "part") rfl)) F ⟨rfl, rfl, rfl, by decide +kernel, rfl, by decide +kernel, by decide +kernel⟩ (by unfold NmOk; decide +kernel) rfl (by kernel_rfl) (by kernel_rfl) (bc_own bas_VE (by kernel_rfl) (ownBB_ok (He.glo_ok X G (c.t.d.fact 36 (f := .glo "QueueError") rfl)) (ex_at c.more 5 rfl)))
theorem kx_BadNumber {P : Program} {w : World} {K : PySem.W.Frag} {mg : Str → Option Value} {base h : Heap} [HasT] (X : K.In h) (G : h.Ns mainGlobals mg) (c : He.SaysX fa fn [] tf ex w h K) : KX P w K mg base "BadNumber" ["given"] := by
  obtain ⟨fd, F⟩ := c.t.d.def_ 37 (d := iAt 3 0 "BadNumber") rfl
  have m := He.meth_ok (c.t.d.fact 61 (f := .meth "BadNumber" "__init__") rfl)
  refine ⟨⟨"ValueError", "ValueError.__new__", "ValueError.__init__", PySem.HandSPX.veTail, _, fd, ["self", "given"], bas_VE, oxB_ok (ex_at c.more 4 rfl), He.glo_ok X G (c.t.d.fact 38 (f := .glo "BadNumber") rfl), m.at_, beq_iff_eq.mp m.fn, ?_, FunD.bindsN F fun _ _ _ _ _ _ us hl => match us, hl with | [_, _], _ => rfl⟩⟩
  exact init_1 bas_VE (oxB_ok (ex_at c.more 4 rfl)) (He.noat_ok (c.t.d.fact 62 (f := .noat "BadNumber" "given") rfl)) F ⟨rfl, rfl, rfl, by decide +kernel, rfl, by decide +kernel, by decide +kernel⟩ (by unfold NmOk; decide +kernel) rfl (by kernel_rfl) (by kernel_rfl) (bc_own bas_VE (by kernel_rfl) (ownBB_ok (He.glo_ok X G (c.t.d.fact 36 (f := .glo "QueueError") rfl)) (ex_at c.more 5 rfl)))
theorem tx_of {P : Program} {w : World} {K : PySem.W.Frag} {mg : Str → Option Value} {base h : Heap} (X : K.In h) (G : h.Ns mainGlobals mg) (c : He.SaysX fa fn [] tf ex w h K) (hB : ∀ p ∈ tf.map (He.cT K), LamX.TabB base mg p.1 p.2) : Tx P w K mg base := by
  letI : HasT := ⟨lamT tf K⟩
  exact {
    f_all := He.free_ok X G (c.t.d.fact 47 (f := .free "all") rfl)
    f_bool := He.free_ok X G (c.t.d.fact 48 (f := .free "bool") rfl)
    f_dict := He.free_ok X G (c.t.d.fact 49 (f := .free "dict") rfl)
    f_enumerate := He.free_ok X G (c.t.d.fact 50 (f := .free "enumerate") rfl)
    f_int := He.free_ok X G (c.t.d.fact 51 (f := .free "int") rfl)
    f_isinstance := He.free_ok X G (c.t.d.fact 52 (f := .free "isinstance") rfl)
    f_len := He.free_ok X G (c.t.d.fact 53 (f := .free "len") rfl)
    f_list := He.free_ok X G (c.t.d.fact 54 (f := .free "list") rfl)
    f_max := He.free_ok X G (c.t.d.fact 55 (f := .free "max") rfl)
    f_range := He.free_ok X G (c.t.d.fact 56 (f := .free "range") rfl)
    f_sorted := He.free_ok X G (c.t.d.fact 57 (f := .free "sorted") rfl)
    f_tuple := He.free_ok X G (c.t.d.fact 58 (f := .free "tuple") rfl)
    g_MOST_TICK := He.int_ok X G (c.t.d.fact 39 (f := .int "MOST_TICK" 1000000000) rfl)
    g_MOST_THINGS := He.int_ok X G (c.t.d.fact 40 (f := .int "MOST_THINGS" 12) rfl)
    g_MOST_EMPTIES := He.int_ok X G (c.t.d.fact 41 (f := .int "MOST_EMPTIES" 8) rfl)
    g_FORM := He.str_ok X G (c.t.d.fact 42 (f := .str "FORM" "form") rfl)
    g_THINGS := He.str_ok X G (c.t.d.fact 43 (f := .str "THINGS" "things") rfl)
    g_THING := He.str_ok X G (c.t.d.fact 44 (f := .str "THING" "thing") rfl)
    g_EMPTIES := He.str_ok X G (c.t.d.fact 45 (f := .str "EMPTIES" "empties") rfl)
    g_EMPTY := He.str_ok X G (c.t.d.fact 46 (f := .str "EMPTY" "empty") rfl)
    sub := fun x y b e => of_decide_eq_true (List.all_eq_true.mp (ex_at c.more 1 rfl) ((x, y), b) (look_mem e))
    x_BadHistory := kx_BadHistory X G c
    x_BadNumber := kx_BadNumber X G c
    m_0 := He.glo_ok X G (c.t.d.fact 0 (f := .glo "is_integer") rfl)
    d_0 := by
      obtain ⟨fd, F⟩ := c.t.d.def_ 0 (d := dAt 13 "is_integer") rfl
      exact ⟨fd, F, FunD.bindsN F fun _ _ _ _ _ _ us hl => match us, hl with | [_], _ => rfl⟩
    m_1 := He.glo_ok X G (c.t.d.fact 1 (f := .glo "is_between") rfl)
    d_1 := by
      obtain ⟨fd, F⟩ := c.t.d.def_ 1 (d := dAt 14 "is_between") rfl
      exact ⟨fd, F, FunD.bindsN F fun _ _ _ _ _ _ us hl => match us, hl with | [_, _, _], _ => rfl⟩
    m_2 := He.glo_ok X G (c.t.d.fact 2 (f := .glo "is_call") rfl)
    d_2 := by
      obtain ⟨fd, F⟩ := c.t.d.def_ 2 (d := dAt 15 "is_call") rfl
      exact ⟨fd, F, FunD.bindsN F fun _ _ _ _ _ _ us hl => match us, hl with | [_], _ => rfl⟩
    m_3 := He.glo_ok X G (c.t.d.fact 3 (f := .glo "is_thing") rfl)
    d_3 := by
      obtain ⟨fd, F⟩ := c.t.d.def_ 3 (d := dAt 16 "is_thing") rfl
      exact ⟨fd, F, FunD.bindsN F fun _ _ _ _ _ _ us hl => match us, hl with | [_], _ => rfl⟩
    m_4 := He.glo_ok X G (c.t.d.fact 4 (f := .glo "need_history") rfl)
    d_4 := by
      obtain ⟨fd, F⟩ := c.t.d.def_ 4 (d := dAt 17 "need_history") rfl
      exact ⟨fd, F, FunD.bindsN F fun _ _ _ _ _ _ us hl => match us, hl with | [_], _ => rfl⟩
    m_5 := He.glo_ok X G (c.t.d.fact 5 (f := .glo "need_number_of") rfl)
    d_5 := by
      obtain ⟨fd, F⟩ := c.t.d.def_ 5 (d := dAt 18 "need_number_of") rfl
      exact ⟨fd, F, FunD.bindsN F fun _ _ _ _ _ _ us hl => match us, hl with | [_, _], _ => rfl⟩
    m_6 := He.glo_ok X G (c.t.d.fact 6 (f := .glo "is_in_ahead") rfl)
    d_6 := by
      obtain ⟨fd, F⟩ := c.t.d.def_ 6 (d := dAt 20 "is_in_ahead") rfl
      exact ⟨fd, F, FunD.bindsN F fun _ _ _ _ _ _ us hl => match us, hl with | [_, _], _ => rfl⟩
    m_7 := He.glo_ok X G (c.t.d.fact 7 (f := .glo "is_out_ahead") rfl)
    d_7 := by
      obtain ⟨fd, F⟩ := c.t.d.def_ 7 (d := dAt 21 "is_out_ahead") rfl
      exact ⟨fd, F, FunD.bindsN F fun _ _ _ _ _ _ us hl => match us, hl with | [_, _], _ => rfl⟩
    m_8 := He.glo_ok X G (c.t.d.fact 8 (f := .glo "is_turned_with") rfl)
    d_8 := by
      obtain ⟨fd, F⟩ := c.t.d.def_ 8 (d := dAt 22 "is_turned_with") rfl
      exact ⟨fd, F, FunD.bindsN F fun _ _ _ _ _ _ us hl => match us, hl with | [_, _], _ => rfl⟩
    m_9 := He.glo_ok X G (c.t.d.fact 9 (f := .glo "is_early") rfl)
    d_9 := by
      obtain ⟨fd, F⟩ := c.t.d.def_ 9 (d := dAt 23 "is_early") rfl
      exact ⟨fd, F, FunD.bindsN F fun _ _ _ _ _ _ us hl => match us, hl with | [_], _ => rfl⟩
    m_10 := He.glo_ok X G (c.t.d.fact 10 (f := .glo "need_two") rfl)
    d_10 := by
      obtain ⟨fd, F⟩ := c.t.d.def_ 10 (d := dAt 24 "need_two") rfl
      exact ⟨fd, F, FunD.bindsN F fun _ _ _ _ _ _ us hl => match us, hl with | [_, _, _], _ => rfl⟩
    m_11 := He.glo_ok X G (c.t.d.fact 11 (f := .glo "is_in") rfl)
    d_11 := by
      obtain ⟨fd, F⟩ := c.t.d.def_ 11 (d := dAt 25 "is_in") rfl
      exact ⟨fd, F, FunD.bindsN F fun _ _ _ _ _ _ us hl => match us, hl with | [_, _, _], _ => rfl⟩
    m_12 := He.glo_ok X G (c.t.d.fact 12 (f := .glo "is_out") rfl)
    d_12 := by
      obtain ⟨fd, F⟩ := c.t.d.def_ 12 (d := dAt 26 "is_out") rfl
      exact ⟨fd, F, FunD.bindsN F fun _ _ _ _ _ _ us hl => match us, hl with | [_, _, _], _ => rfl⟩
    m_13 := He.glo_ok X G (c.t.d.fact 13 (f := .glo "is_turned") rfl)
    d_13 := by
      obtain ⟨fd, F⟩ := c.t.d.def_ 13 (d := dAt 27 "is_turned") rfl
      exact ⟨fd, F, FunD.bindsN F fun _ _ _ _ _ _ us hl => match us, hl with | [_, _, _], _ => rfl⟩
    m_14 := He.glo_ok X G (c.t.d.fact 14 (f := .glo "pairs_in") rfl)
    d_14 := by
      obtain ⟨fd, F⟩ := c.t.d.def_ 14 (d := dAt 28 "pairs_in") rfl
      exact ⟨fd, F, FunD.bindsN F fun _ _ _ _ _ _ us hl => match us, hl with | [_], _ => rfl⟩
    m_15 := He.glo_ok X G (c.t.d.fact 15 (f := .glo "turned_pairs") rfl)
    d_15 := by
      obtain ⟨fd, F⟩ := c.t.d.def_ 15 (d := dAt 29 "turned_pairs") rfl
      exact ⟨fd, F, FunD.bindsN F fun _ _ _ _ _ _ us hl => match us, hl with | [_], _ => rfl⟩
    m_16 := He.glo_ok X G (c.t.d.fact 16 (f := .glo "early_in") rfl)
    d_16 := by
      obtain ⟨fd, F⟩ := c.t.d.def_ 16 (d := dAt 30 "early_in") rfl
      exact ⟨fd, F, FunD.bindsN F fun _ _ _ _ _ _ us hl => match us, hl with | [_], _ => rfl⟩
    m_17 := He.glo_ok X G (c.t.d.fact 17 (f := .glo "early") rfl)
    d_17 := by
      obtain ⟨fd, F⟩ := c.t.d.def_ 17 (d := dAt 31 "early") rfl
      exact ⟨fd, F, FunD.bindsN F fun _ _ _ _ _ _ us hl => match us, hl with | [_], _ => rfl⟩
    m_18 := He.glo_ok X G (c.t.d.fact 18 (f := .glo "levels_in") rfl)
    d_18 := by
      obtain ⟨fd, F⟩ := c.t.d.def_ 18 (d := dAt 32 "levels_in") rfl
      exact ⟨fd, F, FunD.bindsN F fun _ _ _ _ _ _ us hl => match us, hl with | [_], _ => rfl⟩
    m_19 := He.glo_ok X G (c.t.d.fact 19 (f := .glo "longest_to") rfl)
    d_19 := by
      obtain ⟨fd, F⟩ := c.t.d.def_ 19 (d := dAt 33 "longest_to") rfl
      exact ⟨fd, F, FunD.bindsN F fun _ _ _ _ _ _ us hl => match us, hl with | [_], _ => rfl⟩
    m_20 := He.glo_ok X G (c.t.d.fact 20 (f := .glo "_law_mixed") rfl)
    d_20 := by
      obtain ⟨fd, F⟩ := c.t.d.def_ 20 (d := dAt 35 "_law_mixed") rfl
      exact ⟨fd, F, FunD.bindsN F fun _ _ _ _ _ _ us hl => match us, hl with | [_, _], _ => rfl⟩
    m_21 := He.glo_ok X G (c.t.d.fact 21 (f := .glo "_law_begin") rfl)
    d_21 := by
      obtain ⟨fd, F⟩ := c.t.d.def_ 21 (d := dAt 36 "_law_begin") rfl
      exact ⟨fd, F, FunD.bindsN F fun _ _ _ _ _ _ us hl => match us, hl with | [_], _ => rfl⟩
    m_22 := He.glo_ok X G (c.t.d.fact 22 (f := .glo "_law_draw") rfl)
    d_22 := by
      obtain ⟨fd, F⟩ := c.t.d.def_ 22 (d := dAt 37 "_law_draw") rfl
      exact ⟨fd, F, FunD.bindsN F fun _ _ _ _ _ _ us hl => match us, hl with | [_, _], _ => rfl⟩
    m_23 := He.glo_ok X G (c.t.d.fact 23 (f := .glo "_law_of") rfl)
    d_23 := by
      obtain ⟨fd, F⟩ := c.t.d.def_ 23 (d := dAt 38 "_law_of") rfl
      exact ⟨fd, F, FunD.bindsN F fun _ _ _ _ _ _ us hl => match us, hl with | [_, _], _ => rfl⟩
    m_24 := He.glo_ok X G (c.t.d.fact 24 (f := .glo "_law_in") rfl)
    d_24 := by
      obtain ⟨fd, F⟩ := c.t.d.def_ 24 (d := dAt 39 "_law_in") rfl
      exact ⟨fd, F, FunD.bindsN F fun _ _ _ _ _ _ us hl => match us, hl with | [_, _], _ => rfl⟩
    m_25 := He.glo_ok X G (c.t.d.fact 25 (f := .glo "_law_out") rfl)
    d_25 := by
      obtain ⟨fd, F⟩ := c.t.d.def_ 25 (d := dAt 40 "_law_out") rfl
      exact ⟨fd, F, FunD.bindsN F fun _ _ _ _ _ _ us hl => match us, hl with | [_, _], _ => rfl⟩
    m_26 := He.glo_ok X G (c.t.d.fact 26 (f := .glo "_law_turned") rfl)
    d_26 := by
      obtain ⟨fd, F⟩ := c.t.d.def_ 26 (d := dAt 41 "_law_turned") rfl
      exact ⟨fd, F, FunD.bindsN F fun _ _ _ _ _ _ us hl => match us, hl with | [_, _], _ => rfl⟩
    m_27 := He.glo_ok X G (c.t.d.fact 27 (f := .glo "_law_early") rfl)
    d_27 := by
      obtain ⟨fd, F⟩ := c.t.d.def_ 27 (d := dAt 42 "_law_early") rfl
      exact ⟨fd, F, FunD.bindsN F fun _ _ _ _ _ _ us hl => match us, hl with | [_], _ => rfl⟩
    m_28 := He.glo_ok X G (c.t.d.fact 28 (f := .glo "_law_lot_right") rfl)
    d_28 := by
      obtain ⟨fd, F⟩ := c.t.d.def_ 28 (d := dAt 43 "_law_lot_right") rfl
      exact ⟨fd, F, FunD.bindsN F fun _ _ _ _ _ _ us hl => match us, hl with | [_], _ => rfl⟩
    m_29 := He.glo_ok X G (c.t.d.fact 29 (f := .glo "_law_call") rfl)
    d_29 := by
      obtain ⟨fd, F⟩ := c.t.d.def_ 29 (d := dAt 44 "_law_call") rfl
      exact ⟨fd, F, FunD.bindsN F fun _ _ _ _ _ _ us hl => match us, hl with | [_, _, _], _ => rfl⟩
    m_30 := He.glo_ok X G (c.t.d.fact 30 (f := .glo "_law_queued") rfl)
    d_30 := by
      obtain ⟨fd, F⟩ := c.t.d.def_ 30 (d := dAt 45 "_law_queued") rfl
      exact ⟨fd, F, FunD.bindsN F fun _ _ _ _ _ _ us hl => match us, hl with | [_, _, _, _], _ => rfl⟩
    m_31 := He.glo_ok X G (c.t.d.fact 31 (f := .glo "_law_things") rfl)
    d_31 := by
      obtain ⟨fd, F⟩ := c.t.d.def_ 31 (d := dAt 46 "_law_things") rfl
      exact ⟨fd, F, FunD.bindsN F fun _ _ _ _ _ _ us hl => match us, hl with | [_, _], _ => rfl⟩
    m_32 := He.glo_ok X G (c.t.d.fact 32 (f := .glo "_law_history") rfl)
    d_32 := by
      obtain ⟨fd, F⟩ := c.t.d.def_ 32 (d := dAt 47 "_law_history") rfl
      exact ⟨fd, F, FunD.bindsN F fun _ _ _ _ _ _ us hl => match us, hl with | [_, _, _], _ => rfl⟩
    m_33 := He.glo_ok X G (c.t.d.fact 33 (f := .glo "_law_levels") rfl)
    d_33 := by
      obtain ⟨fd, F⟩ := c.t.d.def_ 33 (d := dAt 48 "_law_levels") rfl
      exact ⟨fd, F, FunD.bindsN F fun _ _ _ _ _ _ us hl => match us, hl with | [_], _ => rfl⟩
    m_34 := He.glo_ok X G (c.t.d.fact 34 (f := .glo "_law_history_right") rfl)
    d_34 := by
      obtain ⟨fd, F⟩ := c.t.d.def_ 34 (d := dAt 49 "_law_history_right") rfl
      exact ⟨fd, F, FunD.bindsN F fun _ _ _ _ _ _ us hl => match us, hl with | [_], _ => rfl⟩
    m_35 := He.glo_ok X G (c.t.d.fact 35 (f := .glo "law") rfl)
    d_35 := by
      obtain ⟨fd, F⟩ := c.t.d.def_ 35 (d := dAt 50 "law") rfl
      exact ⟨fd, F, FunD.bindsN F fun _ _ _ _ _ _ us hl => match us, hl with | [_], _ => rfl⟩
  }
/-- the law, from what its denotation answers -/
theorem law_end (hc : ∀ ns : List Int, ns.length ≤ 63 → (∀ z ∈ ns, Builtin.Int.intBits z ≤ 1048576) → ∃ S, callZ bs 12 35 [.scr ns] ⟨[], 0⟩ = .ok (.bl true) S) {w : World} {K : PySem.W.Frag} {mg : Str → Option Value} {h : Heap} (X : K.In h) (G : h.Ns mainGlobals mg) (c : He.SaysX fa fn [] tf ex w h K) :
    LamX.LawAtS PySem.Challenge.rw_fewqueues_k03_whole_turns w K (L2.CX (PySem.Challenge.rw_fewqueues_k03_whole_turns).prog w) (5 * 12) 63 "_law_script" mg (He.ga K "law") h := by
  obtain ⟨fd, F⟩ := c.t.d.def_ 35 (d := dAt 50 "law") rfl
  have b := FunD.bindsA (ps := ["_law_script"]) F fun _ _ _ _ _ _ us hl => match us, hl with | [_], _ => rfl
  refine lawAt_of X c.hd c.out c.empty (fun s v => b s [v] rfl) hc fun bs' KX' G' hB => ?_
  letI : HasT := ⟨lamT tf K⟩
  have T : Tx (PySem.Challenge.rw_fewqueues_k03_whole_turns).prog w K mg bs' := tx_of X G c hB
  exact fn_z (N := N_35) (k := 5 * 11 + 4) F sc_35 rfl (fun cdv A outer s H E hr => q_35 T (kn_all T 11) hr)
end L2.Z.Lw
open PySem PySem.W PySem.Calls PyProof.Rows
theorem L2.Z.Lw.holds_of (hc : ∀ ns : List Int, ns.length ≤ 63 → (∀ z ∈ ns, Builtin.Int.intBits z ≤ 1048576) → ∃ S, L2.Z.callZ L2.Z.Lw.bs 12 35 [.scr ns] ⟨[], 0⟩ = .ok (.bl true) S) : PySem.Challenge.rw_fewqueues_k03_whole_turns.Holds := by
  w_on; o_law
  refine HandSHeadRun.head_any (r := OpenLaw.row PySem.Challenge.rw_fewqueues_k03_whole_turns) (q := view (OpenLaw.row PySem.Challenge.rw_fewqueues_k03_whole_turns).prog [50]) (H := L2.Z.Lw.hk) (ob := L2.Z.Lw.ob) (M := 3000) (loose := L2.Z.Lw.lo) (d := HandSHeadRun.topDef (OpenLaw.row PySem.Challenge.rw_fewqueues_k03_whole_turns).prog 50) (kwd := []) L2.Z.Lw.ob_eq
    (by kernel_rfl) (fun s => by kernel_rfl) L2.Z.Lw.run (by kernel_rfl) (by kernel_rfl) (by kernel_rfl) (by rfl) (by first | assumption | decide +kernel) (by decide +kernel) ⟨rfl, rfl, rfl, rfl, rfl, by decide +kernel⟩ ?hw ?hc
  case hw => w_witness2
  case hc =>
    refine LamX.walk_ofTsE (l := PySem.Challenge.rw_fewqueues_k03_whole_turns) (n := 63) (k := 5 * 12) (x := "_law_script") (CX := fun w => L2.CX (PySem.Challenge.rw_fewqueues_k03_whole_turns).prog w) rfl (by decide) (by kernel_rfl) ⟨rfl, by decide, by decide⟩ ?F (fun _ _ _ _ _ z => L2.Z.cx_false z)
    intro w mg fa h Y G hmg0
    obtain ⟨K, KX, c⟩ := Y
    have hmg : mg ("law" : PySem.Str) = some (.ref fa) := by
      have e : (HandSHeadRun.topDef (OpenLaw.row PySem.Challenge.rw_fewqueues_k03_whole_turns).prog 50).name = ("law" : PySem.Str) := by kernel_rfl
      rw [← e]
      exact hmg0
    have e := hmg.symm.trans (He.glo_ok KX G (c.t.d.fact 35 (f := .glo "law") rfl))
    cases e
    exact ⟨K, KX, L2.Z.Lw.law_end hc KX G c⟩

theorem PySem.Challenge.cw_fewqueues_k03_whole_turns_holds : PySem.Challenge.rw_fewqueues_k03_whole_turns.Holds :=
  L2.Z.Lw.holds_of L2.Z.Lw.law_ok
