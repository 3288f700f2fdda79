import PyProof.Rows.All
import Wide.All
import OpenK.AllK
import Wide.FinOn
import KE.KStateDown
import HandS.ForMost
import HandS.ForExc
import HandS.Lambda
import HandS.HeadHook4
import HandS.CallSlots
import HandS.Zip
import KE.GoesEnum
import HandS.Wide
import HandS.TupAny
import HandS.TupMul
import HandS.TupLe
import HandS.IsInst
import HandS.SortInts
import HandS.SortRule
import HandS.Sort
import HandS.Conv
import HandS.Deep
import PyProof.P3In
import HandS.Style
import HandS.Defaults
import HandS.HeadHook2
import HandS.HeadEnd
import HandS.EndBits
import HandS.ExcInit
import HandS.TryMany
import KE.KExcInit
import PyProof.ExcBaseAll.OverflowError
import PyProof.ExcBaseAll.RuntimeError
import HandS.HeadWalk
import HandS.ExcValue
import HandS.ExcField
import HandS.SortOrd
import KE.KSortTup
import KE.KSortTupAny
import KE.KDictPairs
import KE.DataMinMax
import KE.LtData
import PyProof.ReprRoads
import PyProof.ReprReads
import PyProof.CallFns
import PyProof.FitsInt
import PyProof.Rows.StrBoot
import HandS.Star
import HandS.DictComp
import HandS.Flt
import HandS.Iter
import HandS.More
import KE.KIndexOf
import HandS.HeadHook3
import PyProof.NeKinds
import PyProof.EqKinds
import HandS.EndTab
import HandS.Head0
import HandS.Head1
import HandS.Head2
import HandS.HeadHook1
import Lean
import PyProof.ReprLen
import PySem.Challenge.RW_fewqueues_k39_whole_told_back
set_option Elab.async false
set_option linter.all false
set_option maxRecDepth 100000
set_option maxHeartbeats 4000000
/-! Z1: a small pure evaluator's data: values, store, monad; how they lie in the abstract heap. -/
namespace L2.Z
open PySem PySem.Spec PyProof.Rows

inductive D where
  | non | bl (b : Bool) | int (i : Int) | str (x : Str) | tup (xs : List D) | loc (n : Nat)
  /-- a caught exception of an own class: its fields, their values -/
  | xc (c : Str) (ns : List Str) (ds : List D)
  /-- a lambda that was handed to this def: its object, its code object and that one's name; the store's places and the heap as they were -/
  | lam (f c : Addr) (q : Str) (m : List Addr) (H : Hp)
  /-- the script: a list of ints that is read alone -/
  | scr (ns : List Int)
  /-- a tuple that was written here: it has no dict -/
  | xtp (xs : List D)
  /-- a place of another store: it is handed on alone -/
  | adr (a : Addr)

inductive O where
  | lst (xs : List D) | fz (xs : List D) | dK (kvs : List (Key × D)) | dT (kvs : List (List Key × D)) | fd (kvs : List (Key × D))

/-- newest first -/
structure Sto where
  os : List O
  n : Nat

def Sto.get (S : Sto) (i : Nat) : Option O := match Nat.blt i S.n with
  | true => S.os[S.n - 1 - i]?
  | false => none
def Sto.push (S : Sto) (o : O) : Sto := ⟨o :: S.os, S.n + 1⟩
def Sto.set (S : Sto) (i : Nat) (o : O) : Sto := ⟨S.os.set (S.n - 1 - i) o, S.n⟩

theorem blt_t {i n : Nat} (h : i < n) : Nat.blt i n = true := Nat.ble_eq_true_of_le h
theorem blt_f {i n : Nat} (h : ¬ i < n) : Nat.blt i n = false := by
  cases e : Nat.blt i n with
  | false => rfl
  | true => exact absurd (Nat.le_of_ble_eq_true e) h
theorem Sto.get_lt {S : Sto} {i : Nat} (h : i < S.n) : S.get i = S.os[S.n - 1 - i]? := by unfold Sto.get; rw [blt_t h]
theorem Sto.get_ge {S : Sto} {i : Nat} (h : ¬ i < S.n) : S.get i = none := by unfold Sto.get; rw [blt_f h]
theorem Sto.lt_of {S : Sto} {i : Nat} {o : O} (h : S.get i = some o) : i < S.n := by
  by_cases q : i < S.n
  · exact q
  · rw [Sto.get_ge q] at h; cases h
@[simp] theorem Sto.push_n (S : Sto) (o : O) : (S.push o).n = S.n + 1 := rfl
@[simp] theorem Sto.set_n (S : Sto) (i : Nat) (o : O) : (S.set i o).n = S.n := rfl
theorem Sto.get_push (S : Sto) (o : O) : (S.push o).get S.n = some o := by
  rw [Sto.get_lt (by show S.n < S.n + 1; omega)]
  show (o :: S.os)[S.n + 1 - 1 - S.n]? = some o
  rw [show S.n + 1 - 1 - S.n = 0 by omega]; rfl
theorem Sto.get_push_lt {S : Sto} {o : O} {i : Nat} (h : i < S.n) : (S.push o).get i = S.get i := by
  rw [Sto.get_lt (by show i < S.n + 1; omega), Sto.get_lt h]
  show (o :: S.os)[S.n + 1 - 1 - i]? = _
  rw [show S.n + 1 - 1 - i = (S.n - 1 - i) + 1 by omega]; rfl
theorem Sto.get_push_gt {S : Sto} {o : O} {i : Nat} (h : S.n < i) : (S.push o).get i = none := Sto.get_ge (by show ¬ i < S.n + 1; omega)
theorem Sto.get_set {S : Sto} {o o' : O} {i : Nat} (h : S.get i = some o') : (S.set i o).get i = some o := by
  have hl := Sto.lt_of h
  rw [Sto.get_lt hl] at h
  rw [Sto.get_lt (S := S.set i o) hl]
  show (S.os.set (S.n - 1 - i) o)[S.n - 1 - i]? = some o
  have : S.n - 1 - i < S.os.length := by
    by_cases q : S.n - 1 - i < S.os.length
    · exact q
    · rw [List.getElem?_eq_none (by omega)] at h; cases h
  rw [List.getElem?_set_self this]
theorem Sto.get_set_ne {S : Sto} {o : O} {i j : Nat} (h : j ≠ i) (hi : i < S.n) : (S.set i o).get j = S.get j := by
  by_cases q : j < S.n
  · rw [Sto.get_lt q, Sto.get_lt (S := S.set i o) q]
    show (S.os.set (S.n - 1 - i) o)[S.n - 1 - j]? = _
    rw [List.getElem?_set_ne (by omega)]
  · rw [Sto.get_ge q, Sto.get_ge (S := S.set i o) q]

structure Xc where
  cls : Str
  ns : List Str
  ds : List D

inductive Res (α : Type) where
  | ok (a : α) (S : Sto) | exc (x : Xc) (S : Sto) | bad

abbrev M (α : Type) := Sto → Res α
def ret {α : Type} (a : α) : M α := fun S => .ok a S
def bad {α : Type} : M α := fun _ => .bad
def bnd {α β : Type} (m : M α) (k : α → M β) : M β := fun S => match m S with
  | .ok a S' => k a S'
  | .exc x S' => .exc x S'
  | .bad => .bad
def raiz {α : Type} (x : Xc) : M α := fun S => .exc x S
abbrev Env := List (Option D)

/-! ### how data lie in the abstract heap -/
/-- a list of ints that nobody writes: locked, one of the module's own, one that is none of the store's -/
def ScrAt (K : PySem.W.Frag) (m : List Addr) (H : Hp) (a : Addr) (ns : List Int) : Prop := (∃ o, H a = some (.frz o (.lst (ns.map V.int)))) ∨ (H a = some (.lst (ns.map V.int)) ∧ a ∉ m) ∨
  ∃ (o : Obj) (its : Array Value) (n : Nat), K.lookup a = some o ∧ o.cls = .type "list" ∧ o.dict = none ∧ o.data = .seq its n ∧ its.size ≤ sizeLine ∧ Vals (ns.map V.int) its.toList
theorem ScrAt.sq {K : PySem.W.Frag} {m : List Addr} {H : Hp} {a : Addr} {ns : List Int} (h : ScrAt K m H a ns) : SqL K H a (ns.map V.int) := by
  rcases h with ⟨o, h⟩ | ⟨h, _⟩ | h
  · exact .inl (.inr ⟨o, h⟩)
  · exact .inl (.inl h)
  · exact .inr h
theorem ScrAt.of {K : PySem.W.Frag} {H : Hp} {a : Addr} {ns : List Int} (h : SqL K H a (ns.map V.int)) : ScrAt K [] H a ns := by
  rcases h with (h | ⟨o, h⟩) | h
  · exact .inr (.inl ⟨h, by simp⟩)
  · exact .inl ⟨o, h⟩
  · exact .inr (.inr h)
structure HLe (H H' : Hp) : Prop where
  tups : ∀ b xs, H b = some (.tup xs) → H' b = some (.tup xs)
  frzs : ∀ b o u, H b = some (.frz o u) → H' b = some (.frz o u)
  exts : ∀ b φ, H b = some (.ext φ) → H' b = some (.ext φ)
  xds : ∀ b fs, H b = some (.xd fs) → H' b = some (.xd fs)
theorem HLe.refl (H : Hp) : HLe H H := ⟨fun _ _ h => h, fun _ _ _ h => h, fun _ _ h => h, fun _ _ h => h⟩
theorem HLe.trans {H H1 H2 : Hp} (a : HLe H H1) (b : HLe H1 H2) : HLe H H2 := ⟨fun c xs h => b.tups c xs (a.tups c xs h), fun c o u h => b.frzs c o u (a.frzs c o u h), fun c o h => b.exts c o (a.exts c o h), fun c o h => b.xds c o (a.xds c o h)⟩
theorem HLe.new {H : Hp} {p : Addr} {o : HO} (h : H p = none) : HLe H (upd H p o) := ⟨fun b xs e => by rw [upd_ne (ne_of_none e h)]; exact e, fun b o u e => by rw [upd_ne (ne_of_none e h)]; exact e, fun b xs e => by rw [upd_ne (ne_of_none e h)]; exact e, fun b xs e => by rw [upd_ne (ne_of_none e h)]; exact e⟩
theorem HLe.sqT {K : PySem.W.Frag} {H H' : Hp} {a : Addr} {xs : List V} (e : HLe H H') (h : SqT K H a xs) : SqT K H' a xs := by
  rcases h with (h | ⟨o, h⟩) | h
  · exact .inl (.inl (e.tups _ _ h))
  · exact .inl (.inr ⟨o, e.frzs _ _ _ h⟩)
  · exact .inr h

structure Ext (m : List Addr) (H : Hp) (m' : List Addr) (H' : Hp) : Prop where
  pre : m <+: m'
  le : HLe H H'
  keep : ∀ b o, H b = some o → (∀ ps, o ≠ .tbl ps) → b ∉ m → H' b = some o ∧ b ∉ m'
theorem Ext.refl (m : List Addr) (H : Hp) : Ext m H m H := ⟨List.prefix_refl _, .refl _, fun _ _ h _ n => ⟨h, n⟩⟩
theorem Ext.trans {m m1 m2 : List Addr} {H H1 H2 : Hp} (a : Ext m H m1 H1) (b : Ext m1 H1 m2 H2) : Ext m H m2 H2 := ⟨a.pre.trans b.pre, a.le.trans b.le, fun c o h t n => b.keep c o (a.keep c o h t n).1 t (a.keep c o h t n).2⟩
theorem Ext.new {m : List Addr} {H : Hp} {p : Addr} {o : HO} (h : H p = none) : Ext m H m (upd H p o) := ⟨List.prefix_refl _, .new h, fun b xs e _ n => ⟨by rw [upd_ne (ne_of_none e h)]; exact e, n⟩⟩

/-- an exception of the class at C that was caught, its dict at dx -/
def exv (a C dx : Addr) : HO := .ext fun h => ∃ (oe : Obj) (vs : Array Value), h.get? a = some oe ∧ Zc (.ref C) (some dx) oe ∧ oe.data = .fields vs
mutual
def RD (K : PySem.W.Frag) (m : List Addr) (H : Hp) : D → V → Prop
  | .non, v => v = .non
  | .bl b, v => v = .bl b
  | .int i, v => v = .int i
  | .str x, v => v = .str x
  | .tup ds, v => ∃ a vs, v = .ref a ∧ SqT K H a vs ∧ RDs K m H ds vs
  | .loc n, v => ∃ a, v = .ref a ∧ m[n]? = some a
  | .xc c ns ds, v => ∃ a dx vs, v = .ref a ∧ H a = some (exv a (He.ga K c) dx) ∧ H dx = some (.xd (ns.zip vs)) ∧ RDs K m H ds vs
  | .lam f c q m0 H0, v => v = .ref f ∧ H c = some (LamX.CodeO c q) ∧ Ext m0 H0 m H
  | .scr ns, v => ∃ a, v = .ref a ∧ ScrAt K m H a ns
  | .xtp ds, v => ∃ a vs ob, v = .ref a ∧ H a = some (.frz ob (.tup vs)) ∧ ob.dict = none ∧ RDs K m H ds vs
  | .adr a, v => v = .ref a
def RDs (K : PySem.W.Frag) (m : List Addr) (H : Hp) : List D → List V → Prop
  | [], vs => vs = []
  | d :: ds, vs => ∃ v r, vs = v :: r ∧ RD K m H d v ∧ RDs K m H ds r
end

theorem pre_get {m m' : List Addr} {n : Nat} {a : Addr} (h : m <+: m') (e : m[n]? = some a) : m'[n]? = some a := by
  obtain ⟨t, rfl⟩ := h
  rw [List.getElem?_append_left (by
    by_cases q : n < m.length
    · exact q
    · rw [List.getElem?_eq_none (by omega)] at e; cases e)]
  exact e

mutual
theorem RD.mono {K : PySem.W.Frag} {m m' : List Addr} {H H' : Hp} (x : Ext m H m' H') : ∀ (d : D) (v : V), RD K m H d v → RD K m' H' d v
  | .non, v, h => by simp only [RD] at h ⊢; exact h
  | .bl b, v, h => by simp only [RD] at h ⊢; exact h
  | .int i, v, h => by simp only [RD] at h ⊢; exact h
  | .str s, v, h => by simp only [RD] at h ⊢; exact h
  | .tup ds, v, h => by
    simp only [RD] at h ⊢
    obtain ⟨a, vs, e, q, r⟩ := h
    exact ⟨a, vs, e, x.le.sqT q, RDs.mono x ds vs r⟩
  | .loc n, v, h => by
    simp only [RD] at h ⊢
    obtain ⟨a, e, q⟩ := h
    exact ⟨a, e, pre_get x.pre q⟩
  | .xc c ns ds, v, h => by
    simp only [RD] at h ⊢
    obtain ⟨a, dx, vs, e, q1, q2, r⟩ := h
    exact ⟨a, dx, vs, e, x.le.exts _ _ q1, x.le.xds _ _ q2, RDs.mono x ds vs r⟩
  | .lam f c q m0 H0, v, h => by
    simp only [RD] at h ⊢
    exact ⟨h.1, x.le.exts _ _ h.2.1, h.2.2.trans x⟩
  | .scr ns, v, h => by
    simp only [RD] at h ⊢
    obtain ⟨a, e, q⟩ := h
    refine ⟨a, e, ?_⟩
    rcases q with ⟨o, q⟩ | ⟨q, n⟩ | q
    · exact .inl ⟨o, x.le.frzs _ _ _ q⟩
    · exact .inr (.inl (x.keep _ _ q (by intro ps z; cases z) n))
    · exact .inr (.inr q)
  | .xtp ds, v, h => by
    simp only [RD] at h ⊢
    obtain ⟨a, vs, ob, e, q, z, r⟩ := h
    exact ⟨a, vs, ob, e, x.le.frzs _ _ _ q, z, RDs.mono x ds vs r⟩
  | .adr a, v, h => by simp only [RD] at h ⊢; exact h
theorem RDs.mono {K : PySem.W.Frag} {m m' : List Addr} {H H' : Hp} (x : Ext m H m' H') : ∀ (ds : List D) (vs : List V), RDs K m H ds vs → RDs K m' H' ds vs
  | [], vs, h => by simp only [RDs] at h ⊢; exact h
  | d :: ds, vs, h => by
    simp only [RDs] at h ⊢
    obtain ⟨v, r, e, q, t⟩ := h
    exact ⟨v, r, e, RD.mono x d v q, RDs.mono x ds r t⟩
end

def RKs {κ : Type} (K : PySem.W.Frag) (m : List Addr) (H : Hp) : List (κ × D) → List (κ × V) → Prop
  | [], vs => vs = []
  | d :: ds, vs => ∃ v r, vs = (d.1, v) :: r ∧ RD K m H d.2 v ∧ RKs K m H ds r
theorem RKs.mono {κ : Type} {K : PySem.W.Frag} {m m' : List Addr} {H H' : Hp} (x : Ext m H m' H') : ∀ (ds : List (κ × D)) (vs : List (κ × V)), RKs K m H ds vs → RKs K m' H' ds vs
  | [], vs, h => by simp only [RKs] at h ⊢; exact h
  | d :: ds, vs, h => by
    simp only [RKs] at h ⊢
    obtain ⟨v, r, e, q, t⟩ := h
    exact ⟨v, r, e, RD.mono x d.2 v q, RKs.mono x ds r t⟩

/-- the entries of a dict whose keys are tuples -/
def RTs (K : PySem.W.Frag) (m : List Addr) (H : Hp) : List (List Key × D) → List DictEntry → Prop
  | [], es => es = []
  | d :: ds, es => ∃ e r b v, es = e :: r ∧ e.key = .ref b ∧ SqT K H b (d.1.map kV) ∧ RelV v e.val ∧ RD K m H d.2 v ∧ RTs K m H ds r
theorem RTs.mono {K : PySem.W.Frag} {m m' : List Addr} {H H' : Hp} (x : Ext m H m' H') : ∀ (ds : List (List Key × D)) (es : List DictEntry), RTs K m H ds es → RTs K m' H' ds es
  | [], es, h => by simp only [RTs] at h ⊢; exact h
  | d :: ds, es, h => by
    simp only [RTs] at h ⊢
    obtain ⟨e, r, b, v, h1, h2, h3, h4, h5, t⟩ := h
    exact ⟨e, r, b, v, h1, h2, x.le.sqT h3, h4, RD.mono x d.2 v h5, RTs.mono x ds r t⟩
/-- a dict's object stands at a0, and that is not where the modules are -/
def dtAt (a0 : Addr) (ob : Obj) : Heap → Prop := fun h => (a0 == sysModules) = false ∧ h.get? a0 = some ob
def RO (K : PySem.W.Frag) (m : List Addr) (H : Hp) : O → Option HO → Prop
  | .lst ds, o => ∃ vs, o = some (.lst vs) ∧ RDs K m H ds vs
  | .fz ds, o => ∃ ob vs, o = some (.frz ob (.lst vs)) ∧ RDs K m H ds vs
  | .dK kvs, o => ∃ vs, o = some (.dK vs) ∧ RKs K m H kvs vs
  | .dT kvs, o => ∃ a0 ob es ep, o = some (.frz ob (.ext (dtAt a0 ob))) ∧ ob.ExactDict ∧ ob.data = .dict es ep ∧ RTs K m H kvs es.toList
  | .fd kvs, o => ∃ ob vs, o = some (.frz ob (.dK vs)) ∧ RKs K m H kvs vs
theorem RO.mono {K : PySem.W.Frag} {m m' : List Addr} {H H' : Hp} (x : Ext m H m' H') {o : O} {h : Option HO} (r : RO K m H o h) : RO K m' H' o h := by
  cases o with
  | lst ds => obtain ⟨vs, e, q⟩ := r; exact ⟨vs, e, RDs.mono x _ _ q⟩
  | fz ds => obtain ⟨ob, vs, e, q⟩ := r; exact ⟨ob, vs, e, RDs.mono x _ _ q⟩
  | dK ds => obtain ⟨vs, e, q⟩ := r; exact ⟨vs, e, RKs.mono x _ _ q⟩
  | dT ds => obtain ⟨a0, ob, es, ep, e, c, d, q⟩ := r; exact ⟨a0, ob, es, ep, e, c, d, RTs.mono x _ _ q⟩
  | fd ds => obtain ⟨ob, vs, e, q⟩ := r; exact ⟨ob, vs, e, RKs.mono x _ _ q⟩
theorem RO.plain {K : PySem.W.Frag} {m : List Addr} {H : Hp} {o : O} {h : Option HO} (r : RO K m H o h) : ∀ v, h = Option.some v → ¬ ((∃ ps, v = .tbl ps) ∨ (∃ φ, v = .ext φ) ∨ ∃ fs, v = .xd fs) := by
  intro v e z
  cases o with
  | lst ds => obtain ⟨vs, e', q⟩ := r; rw [e'] at e; cases e; rcases z with ⟨_, z⟩ | ⟨_, z⟩ | ⟨_, z⟩ <;> cases z
  | fz ds => obtain ⟨ob, vs, e', q⟩ := r; rw [e'] at e; cases e; rcases z with ⟨_, z⟩ | ⟨_, z⟩ | ⟨_, z⟩ <;> cases z
  | dK ds => obtain ⟨vs, e', q⟩ := r; rw [e'] at e; cases e; rcases z with ⟨_, z⟩ | ⟨_, z⟩ | ⟨_, z⟩ <;> cases z
  | dT ds => obtain ⟨a0, ob, es, ep, e', c, d, q⟩ := r; rw [e'] at e; cases e; rcases z with ⟨_, z⟩ | ⟨_, z⟩ | ⟨_, z⟩ <;> cases z
  | fd ds => obtain ⟨ob, vs, e', q⟩ := r; rw [e'] at e; cases e; rcases z with ⟨_, z⟩ | ⟨_, z⟩ | ⟨_, z⟩ <;> cases z
theorem RO.some {K : PySem.W.Frag} {m : List Addr} {H : Hp} {o : O} {h : Option HO} (r : RO K m H o h) : ∃ u, h = Option.some u := by
  cases o with
  | lst ds => obtain ⟨vs, e, q⟩ := r; exact ⟨_, e⟩
  | fz ds => obtain ⟨ob, vs, e, q⟩ := r; exact ⟨_, e⟩
  | dK ds => obtain ⟨vs, e, q⟩ := r; exact ⟨_, e⟩
  | dT ds => obtain ⟨a0, ob, es, ep, e, c, d, q⟩ := r; exact ⟨_, e⟩
  | fd ds => obtain ⟨ob, vs, e, q⟩ := r; exact ⟨_, e⟩

/-- the tables of code objects that lambdas write -/
class HasT where
  T : List (Addr × Str)
variable [HasT]
structure RS (K : PySem.W.Frag) (m : List Addr) (S : Sto) (H : Hp) : Prop where
  tb : LamX.Tabs HasT.T H
  nd : m.Nodup
  len : m.length = S.n
  at_ : ∀ i a, m[i]? = some a → ∃ o, S.get i = some o ∧ RO K m H o (H a)
theorem RS.obj {K : PySem.W.Frag} {m : List Addr} {S : Sto} {H : Hp} (r : RS K m S H) {i : Nat} {a : Addr} {o : O} (h : m[i]? = some a) (e : S.get i = some o) : RO K m H o (H a) := by
  obtain ⟨o', e', q⟩ := r.at_ i a h
  rw [e] at e'; cases e'
  exact q
theorem RS.notin {K : PySem.W.Frag} {m : List Addr} {S : Sto} {H : Hp} (r : RS K m S H) {p : Addr} (h : H p = none) : p ∉ m := fun hm => by
  obtain ⟨i, hi, e⟩ := List.mem_iff_getElem.mp hm
  obtain ⟨o, _, q⟩ := r.at_ i p (by rw [List.getElem?_eq_getElem hi, e])
  obtain ⟨u, z⟩ := q.some
  rw [h] at z; cases z
/-- something new that the store does not hold (a tuple) -/
theorem RS.new {K : PySem.W.Frag} {m : List Addr} {S : Sto} {H : Hp} (r : RS K m S H) {p : Addr} {o : HO} (h : H p = none) : RS K m S (upd H p o) :=
  ⟨r.tb.ext fun b u e => by rw [upd_ne (ne_of_none e h)]; exact e, r.nd, r.len, fun i a e => by
    obtain ⟨ob, g, q⟩ := r.at_ i a e
    refine ⟨ob, g, ?_⟩
    have na : a ≠ p := fun z => r.notin h (by rw [← z]; exact List.mem_of_getElem? e)
    rw [upd_ne na]
    exact q.mono (.new h)⟩
theorem nodup_snoc {α : Type} {l : List α} {a : α} (h : l.Nodup) (n : a ∉ l) : (l ++ [a]).Nodup := by
  rw [List.nodup_append]
  exact ⟨h, by simp, fun x hx y hy => by
    simp at hy; subst hy
    intro z; subst z; exact n hx⟩
/-- a new object of the store -/
theorem RS.push {K : PySem.W.Frag} {m : List Addr} {S : Sto} {H : Hp} (r : RS K m S H) {p : Addr} {o : O} {u : HO} (h : H p = none) (q : ∀ m' H', Ext m H m' H' → RO K m' H' o (some u)) : Ext m H (m ++ [p]) (upd H p u) ∧ RS K (m ++ [p]) (S.push o) (upd H p u) ∧ (m ++ [p])[S.n]? = some p := by
  have x : Ext m H (m ++ [p]) (upd H p u) := ⟨List.prefix_append _ _, .new h, fun b xs e _ n => ⟨by rw [upd_ne (ne_of_none e h)]; exact e, by
    intro z
    rcases List.mem_append.mp z with z | z
    · exact n z
    · exact ne_of_none e h (by simpa using z)⟩⟩
  refine ⟨x, ⟨r.tb.ext fun b u e => by rw [upd_ne (ne_of_none e h)]; exact e, nodup_snoc r.nd (r.notin h), by simp [r.len], fun i a e => ?_⟩, by rw [← r.len]; simp⟩
  by_cases hi : i < m.length
  · rw [List.getElem?_append_left hi] at e
    obtain ⟨ob, g, z⟩ := r.at_ i a e
    refine ⟨ob, by rw [Sto.get_push_lt (by rw [← r.len]; exact hi)]; exact g, ?_⟩
    have na : a ≠ p := fun y => r.notin h (by rw [← y]; exact List.mem_of_getElem? e)
    rw [upd_ne na]
    exact z.mono x
  · rw [List.getElem?_append_right (by omega)] at e
    have hi2 : i - m.length = 0 := by
      by_cases q : i - m.length = 0
      · exact q
      · rw [List.getElem?_eq_none (by simp; omega)] at e; cases e
    rw [hi2] at e
    have ea : p = a := Option.some.inj e
    subst ea
    have ei : i = S.n := by rw [← r.len]; omega
    subst ei
    refine ⟨o, Sto.get_push _ _, ?_⟩
    rw [upd_same]
    exact q _ _ x
theorem ix_inj {m : List Addr} (h : m.Nodup) {i j : Nat} {a : Addr} (e : m[i]? = some a) (e' : m[j]? = some a) : i = j := by
  have hi : i < m.length := by
    by_cases q : i < m.length
    · exact q
    · rw [List.getElem?_eq_none (by omega)] at e; cases e
  have hj : j < m.length := by
    by_cases q : j < m.length
    · exact q
    · rw [List.getElem?_eq_none (by omega)] at e'; cases e'
  rw [List.getElem?_eq_getElem hi] at e
  rw [List.getElem?_eq_getElem hj] at e'
  exact (List.getElem_inj h).mp (Option.some.inj (e.trans e'.symm))
/-- an object of the store is written -/
theorem RS.set {K : PySem.W.Frag} {m : List Addr} {S : Sto} {H : Hp} (r : RS K m S H) {i : Nat} {a : Addr} {o o' : O} {u u' : HO} (h : m[i]? = some a) (g : S.get i = some o') (hu : H a = some u') (nt : ∀ xs, u' ≠ .tup xs) (nf : ∀ ob x, u' ≠ .frz ob x)
    (q : ∀ m' H', Ext m H m' H' → RO K m' H' o (some u)) : Ext m H m (upd H a u) ∧ RS K m (S.set i o) (upd H a u) := by
  have plain := (r.obj h g).plain
  have ne : ∀ b v, H b = some v → ((∃ ps, v = .tbl ps) ∨ (∃ φ, v = .ext φ) ∨ ∃ fs, v = .xd fs) → b ≠ a := fun b v e z y => by
    subst y
    rw [e] at plain
    exact plain v rfl z
  have x : Ext m H m (upd H a u) := ⟨List.prefix_refl _, ⟨fun b xs e => by
    rw [upd_ne (fun z => by subst z; rw [hu] at e; exact nt xs (Option.some.inj e))]; exact e, fun b ob w e => by
    rw [upd_ne (fun z => by subst z; rw [hu] at e; exact nf ob w (Option.some.inj e))]; exact e, fun b φ e => by
    rw [upd_ne (ne _ _ e (.inr (.inl ⟨_, rfl⟩)))]; exact e, fun b φ e => by
    rw [upd_ne (ne _ _ e (.inr (.inr ⟨_, rfl⟩)))]; exact e⟩, fun b xs e _ n => ⟨by
    rw [upd_ne (fun z => n (by rw [z]; exact List.mem_of_getElem? h))]; exact e, n⟩⟩
  refine ⟨x, ?_, r.nd, r.len, fun j b e => ?_⟩
  · intro p hp
    obtain ⟨ps, h1, h2, h3⟩ := r.tb p hp
    refine ⟨ps, by rw [upd_ne (ne _ _ h1 (.inl ⟨ps, rfl⟩))]; exact h1, h2, fun pos cv hc => ?_⟩
    obtain ⟨c, e1, e2⟩ := h3 pos cv hc
    exact ⟨c, e1, by rw [upd_ne (ne _ _ e2 (.inr (.inl ⟨_, rfl⟩)))]; exact e2⟩
  by_cases hj : j = i
  · subst hj
    rw [h] at e
    have eb : a = b := Option.some.inj e
    subst eb
    refine ⟨o, Sto.get_set g, ?_⟩
    rw [upd_same]
    exact q _ _ x
  · obtain ⟨ob, g', z⟩ := r.at_ j b e
    refine ⟨ob, by rw [Sto.get_set_ne hj (Sto.lt_of g)]; exact g', ?_⟩
    have na : b ≠ a := fun y => hj (ix_inj r.nd e (by rw [y]; exact h))
    rw [upd_ne na]
    exact z.mono x

/-- the names' values -/
structure RE (K : PySem.W.Frag) (m : List Addr) (H : Hp) (σ : Env) (σv : St) : Prop where
  len : σ.length = σv.length
  at_ : ∀ (i : Nat) (d : D), σ[i]? = some (some d) → ∃ v, σv[i]? = some (some v) ∧ RD K m H d v
theorem RE.mono {K : PySem.W.Frag} {m m' : List Addr} {H H' : Hp} {σ : Env} {σv : St} (x : Ext m H m' H') (r : RE K m H σ σv) : RE K m' H' σ σv :=
  ⟨r.len, fun i d e => by obtain ⟨v, e', q⟩ := r.at_ i d e; exact ⟨v, e', RD.mono x _ _ q⟩⟩
theorem RE.set {K : PySem.W.Frag} {m : List Addr} {H : Hp} {σ : Env} {σv : St} (r : RE K m H σ σv) {d : D} {v : V} (q : RD K m H d v) (i : Nat) : RE K m H (σ.set i (some d)) (σv.set i (some v)) :=
  ⟨by simp [r.len], fun j e h => by
    by_cases hj : i = j
    · subst hj
      by_cases hl : i < σ.length
      · rw [List.getElem?_set_self hl] at h
        cases h
        exact ⟨v, by rw [List.getElem?_set_self (by rw [← r.len]; exact hl)], q⟩
      · rw [List.getElem?_eq_none (by simpa using hl)] at h; cases h
    · rw [List.getElem?_set_ne hj] at h
      rw [List.getElem?_set_ne hj]
      exact r.at_ j e h⟩

/-! ### what is asked of a result -/
/-- an exception as it lies: its class, its own dict -/
def RX (K : PySem.W.Frag) (m : List Addr) (H : Hp) (mg : Str → Option Value) (x : Xc) (c : Value) (d : Option Addr) : Prop :=
  ∃ dd vs, mg x.cls = some (.ref (He.ga K x.cls)) ∧ c = .ref (He.ga K x.cls) ∧ d = some dd ∧ H dd = some (.xd (x.ns.zip vs)) ∧ RDs K m H x.ds vs

def PostE (K : PySem.W.Frag) (mg : Str → Option Value) (m : List Addr) (H : Hp) (r : Res D) (Q : VK) (E : XK) : Prop := match r with
  | .ok d S' => ∀ m' H' v, Ext m H m' H' → RS K m' S' H' → RD K m' H' d v → Q v H'
  | .exc x S' => ∀ m' H' c d, Ext m H m' H' → RS K m' S' H' → RX K m' H' mg x c d → E c d H'
  | .bad => False
end L2.Z

set_option Elab.async false
set_option linter.all false
set_option maxRecDepth 100000
set_option maxHeartbeats 4000000
/-! Z2: judgements, expressions. -/
namespace L2.Z
open PySem PySem.Spec PyProof.Rows
variable [HasT]

def PostG {α : Type} (K : PySem.W.Frag) (mg : Str → Option Value) (m : List Addr) (H : Hp) (r : Res α) (P : α → Sto → List Addr → Hp → Prop) (E : XK) : Prop := match r with
  | .ok a S' => ∀ m' H', Ext m H m' H' → RS K m' S' H' → P a S' m' H'
  | .exc x S' => ∀ m' H' c d, Ext m H m' H' → RS K m' S' H' → RX K m' H' mg x c d → E c d H'
  | .bad => False
section
variable {K : PySem.W.Frag} {mg : Str → Option Value} {m m1 : List Addr} {H H1 : Hp} {α β : Type} {E : XK}
theorem PostG.ext {r : Res α} {P : α → Sto → List Addr → Hp → Prop} (h : PostG K mg m H r P E) (x : Ext m H m1 H1) : PostG K mg m1 H1 r P E := by
  cases r with
  | ok a S => exact fun m' H' y rs => h m' H' (x.trans y) rs
  | exc a S => exact fun m' H' c d y rs q => h m' H' c d (x.trans y) rs q
  | bad => exact h
theorem PostG.bnd {f : M α} {k : α → M β} {S : Sto} {P : β → Sto → List Addr → Hp → Prop} (h : PostG K mg m H (Z.bnd f k S) P E) : PostG K mg m H (f S) (fun a S1 m1 H1 => PostG K mg m1 H1 (k a S1) P E) E := by
  unfold Z.bnd at h
  cases e : f S with
  | ok a S1 =>
    rw [e] at h
    exact fun m' H' x rs => PostG.ext h x
  | exc a S1 =>
    rw [e] at h
    exact h
  | bad =>
    rw [e] at h
    exact h
theorem PostG.imp {r : Res α} {P P' : α → Sto → List Addr → Hp → Prop} (h : PostG K mg m H r P E) (q : ∀ a S m' H', P a S m' H' → P' a S m' H') : PostG K mg m H r P' E := by
  cases r with
  | ok a S => exact fun m' H' x rs => q _ _ _ _ (h m' H' x rs)
  | exc a S => exact h
  | bad => exact h
end

/-! ### expressions -/
def wE (X : Cx) (e : Expr) (σ : St) (H : Hp) (Q : VK) : Prop := ∀ pins s, Inv X pins σ H s → wpAny (model X.prog X.w) X.A (eval e X.env) (EP X pins σ Q) X.xe s
theorem pw {X : Cx} (e : Expr) : PE X e (wE X e) := ⟨fun pins s σ H Q I h => h pins s I⟩
theorem wE.mono {X : Cx} {e : Expr} {σ : St} {H : Hp} {Q Q' : VK} (h : wE X e σ H Q) (q : ∀ v H', Q v H' → Q' v H') : wE X e σ H Q' := fun pins s I =>
  thn (h pins s I) fun u s' ⟨v, H', I', r, z⟩ => ⟨v, H', I', r, q _ _ z⟩
theorem wE.of {X : Cx} {e : Expr} {t : TE} (h : PE X e t) {σ : St} {H : Hp} {Q : VK} (q : t σ H Q) : wE X e σ H Q := fun pins s I => h.run pins s σ H Q I q

/-- what a value's wish is from a wish about data -/
abbrev GV (K : PySem.W.Frag) (m : List Addr) (H : Hp) (P : D → Sto → List Addr → Hp → Prop) : VK := fun v H' => ∃ d S' m', RS K m' S' H' ∧ RD K m' H' d v ∧ Ext m H m' H' ∧ P d S' m' H'

structure QE (X : Cx) (e : Expr) (f : Env → M D) : Prop where
  run : ∀ (W : WX), Takes X W → ∀ (m : List Addr) (S : Sto) (σ : Env) (σv : St) (H : Hp) (P : D → Sto → List Addr → Hp → Prop), RS X.K m S H → RE X.K m H σ σv →
  PostG X.K X.mg m H (f σ S) P (fun c d H' => W c d σv H') → wE X e σv H (GV X.K m H P)

/-- a value at once -/
theorem qe_val {X : Cx} {e : Expr} {d : D} {t : V} (h : PE X e (tC t)) (r : ∀ m H, RD X.K m H d t) : QE X e (fun _ => ret d) := ⟨fun W tk m S σ σv H P rs re p =>
  wE.of h ⟨d, S, m, rs, r m H, .refl _ _, p m H (.refl _ _) rs⟩⟩

def eC (d : D) : Env → M D := fun _ => ret d
def eVar (i : Nat) : Env → M D := fun σ => match σ[i]? with
  | some (some d) => ret d
  | _ => bad
section
variable {X : Cx}
theorem q_int {i j pos} : QE X (.Constant (.int i) j pos) (eC (.int i)) := qe_val pe_int fun _ _ => by simp only [RD]
theorem q_bl {b j pos} : QE X (.Constant (.bool b) j pos) (eC (.bl b)) := qe_val pe_bl fun _ _ => by simp only [RD]
theorem q_non {j pos} : QE X (.Constant .none j pos) (eC .non) := qe_val pe_non fun _ _ => by simp only [RD]
theorem q_str {x j pos} : QE X (.Constant (.str x) j pos) (eC (.str x)) := qe_val pe_str fun _ _ => by simp only [RD]
def visB (sc : Scope) (x : Str) : Bool := match sc.names.lookup x with
  | some .local => true
  | some .cell => true
  | some .free => true
  | _ => false
theorem visB_ok {sc : Scope} {x : Str} (h : visB sc x = true) : Vis sc x := by
  unfold visB at h
  split at h
  · exact .inl (by assumption)
  · exact .inr (.inl (by assumption))
  · exact .inr (.inr (by assumption))
  · cases h
def locB (sc : Scope) (x : Str) : Bool := match sc.names.lookup x with
  | some .local => true
  | some .cell => true
  | _ => false
theorem locB_ok {sc : Scope} {x : Str} (h : locB sc x = true) : Loc sc x := by
  unfold locB at h
  split at h
  · exact .inl (by assumption)
  · exact .inr (by assumption)
  · cases h
def lclB (sc : Scope) (x : Str) : Bool := match sc.names.lookup x with
  | some .local => true
  | _ => false
theorem lclB_ok {sc : Scope} {x : Str} (h : lclB sc x = true) : sc.names.lookup x = some .local := by
  unfold lclB at h
  split at h
  · assumption
  · cases h
theorem fnB_ok {b : Bool} {sc : Scope} {x : Str} (h : (b || lclB sc x) = true) : b = true ∨ sc.names.lookup x = some .local := by
  rcases Bool.or_eq_true_iff.mp h with h | h
  · exact .inl h
  · exact .inr (lclB_ok h)
def glB (sc : Scope) (x : Str) : Bool := (match sc.names.lookup x with
  | some .globalImplicit => true
  | _ => false) && !(x == ("__debug__" : Str)) && !(x == ("__name__" : Str))
theorem glB_ok {X : Cx} {x : Str} (h : glB X.env.scope x = true) : Gl X x ∧ (x == ("__debug__" : Str)) = false ∧ x ≠ "__name__" := by
  unfold glB at h
  rw [Bool.and_eq_true, Bool.and_eq_true] at h
  obtain ⟨⟨h1, h2⟩, h3⟩ := h
  refine ⟨?_, by simpa using h2, by simpa using h3⟩
  split at h1
  · assumption
  · cases h1
/-- no name of a def is one of the two that are read otherwise -/
def NmOk (N : List Str) : Prop := ∀ x ∈ N, (x == ("__debug__" : Str)) = false ∧ (x == ("__classdict__" : Str)) = false
theorem q_var (i : Nat) {x : Str} {pos : Pos} (nm : NmOk X.N) (hN : X.N[i]? = some x := by kernel_rfl) (hv : visB X.env.scope x = true := by kernel_rfl) : QE X (.Name x pos) (eVar i) := ⟨fun W tk m S σ σv H P rs re p => by
  have hh := nm x (List.mem_of_getElem? hN)
  refine wE.of (pe_var hN (visB_ok hv) hh.1 hh.2) ?_
  unfold eVar at p
  cases e : σ[i]? with
  | none => rw [e] at p; exact p.elim
  | some o =>
    cases o with
    | none => rw [e] at p; exact p.elim
    | some d =>
      rw [e] at p
      obtain ⟨v, ev, r⟩ := re.at_ i d e
      exact ⟨v, ev, d, S, m, rs, r, .refl _ _, p m H (.refl _ _) rs⟩⟩
/-- a module's constant -/
theorem q_gint {x : Str} {i : Int} {pos : Pos} (hm : ∃ t, X.mg x = some (.int i t)) (hg : glB X.env.scope x = true := by kernel_rfl) : QE X (.Name x pos) (eC (.int i)) := by
  obtain ⟨t, hm⟩ := hm
  exact qe_val (pe_glob (glB_ok hg).1 hm (v := .int i) ⟨t, rfl⟩ (glB_ok hg).2.1) fun _ _ => by simp only [RD]
theorem q_gstr {x z : Str} {pos : Pos} (hm : ∃ t, X.mg x = some (.str z t)) (hg : glB X.env.scope x = true := by kernel_rfl) : QE X (.Name x pos) (eC (.str z)) := by
  obtain ⟨t, hm⟩ := hm
  exact qe_val (pe_glob (glB_ok hg).1 hm (v := .str z) ⟨t, rfl⟩ (glB_ok hg).2.1) fun _ _ => by simp only [RD]
end

/-! ### operations by values -/
def up (o : Sto → Option (D × Sto)) : M D := fun S => match o S with
  | some (d, S') => .ok d S'
  | none => .bad
theorem PostG.up {K : PySem.W.Frag} {mg : Str → Option Value} {m : List Addr} {H : Hp} {E : XK} {o : Sto → Option (D × Sto)} {S : Sto} {P : D → Sto → List Addr → Hp → Prop} (h : PostG K mg m H (Z.up o S) P E) :
    ∃ d S', o S = some (d, S') ∧ ∀ m' H', Ext m H m' H' → RS K m' S' H' → P d S' m' H' := by
  unfold Z.up at h
  cases e : o S with
  | none => rw [e] at h; exact h.elim
  | some p =>
    obtain ⟨d, S'⟩ := p
    rw [e] at h
    exact ⟨d, S', rfl, h⟩

abbrev F1 := D → Sto → Option (D × Sto)
abbrev F2 := D → D → Sto → Option (D × Sto)
abbrev FL := List D → Sto → Option (D × Sto)
def rF1 (K : PySem.W.Frag) (h : F1) : V → Hp → VK → Prop := fun x H Q => ∃ m S d0 d S', RS K m S H ∧ RD K m H d0 x ∧ h d0 S = some (d, S') ∧ ∀ m' H' v, Ext m H m' H' → RS K m' S' H' → RD K m' H' d v → Q v H'
def rF2 (K : PySem.W.Frag) (h : F2) : R2 := fun x y H Q => ∃ m S d1 d2 d S', RS K m S H ∧ RD K m H d1 x ∧ RD K m H d2 y ∧ h d1 d2 S = some (d, S') ∧ ∀ m' H' v, Ext m H m' H' → RS K m' S' H' → RD K m' H' d v → Q v H'
def rFL (K : PySem.W.Frag) (h : FL) : List V → Hp → VK → Prop := fun xs H Q => ∃ m S ds d S', RS K m S H ∧ RDs K m H ds xs ∧ h ds S = some (d, S') ∧ ∀ m' H' v, Ext m H m' H' → RS K m' S' H' → RD K m' H' d v → Q v H'
def rFM (K : PySem.W.Frag) (h : D → FL) : V → List V → Hp → VK → Prop := fun x xs H Q => ∃ m S d0 ds d S', RS K m S H ∧ RD K m H d0 x ∧ RDs K m H ds xs ∧ h d0 ds S = some (d, S') ∧ ∀ m' H' v, Ext m H m' H' → RS K m' S' H' → RD K m' H' d v → Q v H'

def e1 (h : F1) (f : Env → M D) : Env → M D := fun σ => bnd (f σ) fun x => up (h x)
def e2 (h : F2) (f g : Env → M D) : Env → M D := fun σ => bnd (f σ) fun x => bnd (g σ) fun y => up (h x y)
section
variable {X : Cx} {a b : Expr} {f g : Env → M D} {pos : Pos}
/-- the two parts, then what is made of them -/
theorem two (ha : QE X a f) (hb : QE X b g) {W : WX} (tk : Takes X W) {m : List Addr} {S : Sto} {σ : Env} {σv : St} {H : Hp} {h : F2} {P : D → Sto → List Addr → Hp → Prop} (rs : RS X.K m S H) (re : RE X.K m H σ σv)
    (p : PostG X.K X.mg m H (e2 h f g σ S) P (fun c d H' => W c d σv H')) : wE X a σv H fun x H1 => wE X b σv H1 fun y H2 => rF2 X.K h x y H2 (GV X.K m H P) := by
  have p1 := p.bnd
  refine (ha.run W tk m S σ σv H _ rs re p1).mono ?_
  rintro x H1 ⟨d1, S1, m1, rs1, r1, x1, q1⟩
  refine (hb.run W tk m1 S1 σ σv H1 _ rs1 (re.mono x1) q1.bnd).mono ?_
  rintro y H2 ⟨d2, S2, m2, rs2, r2, x2, q2⟩
  obtain ⟨d, S', e, q⟩ := q2.up
  exact ⟨m2, S2, d1, d2, d, S', rs2, RD.mono x2 _ _ r1, r2, e, fun m' H' v x' rs' rv => ⟨d, S', m', rs', rv, (x1.trans x2).trans x', q m' H' x' rs'⟩⟩
theorem q_op {op : Operator} {h : F2} (ho : OpR X (binaryOp op) (rF2 X.K h)) (ha : QE X a f) (hb : QE X b g) : QE X (.BinOp a op b pos) (e2 h f g) := ⟨fun W tk m S σ σv H P rs re p =>
  wE.of (pe_op ho (pw a) (pw b)) (two ha hb tk rs re p)⟩
theorem q_cmp {op : CmpOp} {h : F2} (ho : OpR X (compareOp op) (rF2 X.K h)) (ha : QE X a f) (hb : QE X b g) (hm : behindInMarks op b = false) : QE X (.Compare a [op] [b] pos) (e2 h f g) := ⟨fun W tk m S σ σv H P rs re p =>
  wE.of (pe_cmpR ho (pw a) (pw b) hm) (two ha hb tk rs re p)⟩
theorem one (ha : QE X a f) {W : WX} (tk : Takes X W) {m : List Addr} {S : Sto} {σ : Env} {σv : St} {H : Hp} {h : F1} {P : D → Sto → List Addr → Hp → Prop} (rs : RS X.K m S H) (re : RE X.K m H σ σv)
    (p : PostG X.K X.mg m H (e1 h f σ S) P (fun c d H' => W c d σv H')) : wE X a σv H fun x H1 => rF1 X.K h x H1 (GV X.K m H P) := by
  have p1 := p.bnd
  refine (ha.run W tk m S σ σv H _ rs re p1).mono ?_
  rintro x H1 ⟨d1, S1, m1, rs1, r1, x1, q1⟩
  obtain ⟨d, S', e, q⟩ := q1.up
  exact ⟨m1, S1, d1, d, S', rs1, r1, e, fun m' H' v x' rs' rv => ⟨d, S', m', rs', rv, x1.trans x', q m' H' x' rs'⟩⟩
theorem q_un {op : UnaryOp} {h : F1} (ho : UnR X (unaryOp op) (rF1 X.K h)) (ha : QE X a f) : QE X (.UnaryOp op a pos) (e1 h f) := ⟨fun W tk m S σ σv H P rs re p =>
  wE.of (pe_un ho (pw a)) (one ha tk rs re p)⟩
end

/-! ### arguments -/
def wA (X : Cx) (es : List Expr) (σ : St) (H : Hp) (Q : List V → Hp → Prop) : Prop := ∀ pos pins s, Inv X pins σ H s → wpAny (model X.prog X.w) X.A (spliced (backTo pos (starEach es X.env))) (AP X pins σ Q) X.xe s
theorem paw {X : Cx} (es : List Expr) : PA X es (wA X es) := ⟨fun pos pins s σ H Q I h => h pos pins s I⟩
abbrev GA (K : PySem.W.Frag) (m : List Addr) (H : Hp) (P : List D → Sto → List Addr → Hp → Prop) : List V → Hp → Prop := fun vs H' => ∃ ds S' m', RS K m' S' H' ∧ RDs K m' H' ds vs ∧ Ext m H m' H' ∧ P ds S' m' H'
structure QA (X : Cx) (es : List Expr) (f : Env → M (List D)) : Prop where
  run : ∀ (W : WX), Takes X W → ∀ (m : List Addr) (S : Sto) (σ : Env) (σv : St) (H : Hp) (P : List D → Sto → List Addr → Hp → Prop), RS X.K m S H → RE X.K m H σ σv →
  PostG X.K X.mg m H (f σ S) P (fun c d H' => W c d σv H') → wA X es σv H (GA X.K m H P)
def aNil : Env → M (List D) := fun _ => ret []
def aCons (f : Env → M D) (g : Env → M (List D)) : Env → M (List D) := fun σ => bnd (f σ) fun x => bnd (g σ) fun xs => ret (x :: xs)
theorem star1 {e : Expr} {es : List Expr} {env : PySem.Env} (h : PySem.W.isStarred e = false) : starEach (e :: es) env = (false, eval e env) :: starEach es env := by
  cases e <;> first | rfl | cases h
theorem star2 {es : List Expr} {env : PySem.Env} {pos : Pos} (h : es.any PySem.W.isStarred = false) : (backTo pos (starEach es env)).any (·.1) = false := by
  induction es with
  | nil => rfl
  | cons e es ih =>
    rw [List.any_cons, Bool.or_eq_false_iff] at h
    rw [star1 h.1]
    show (false || (backTo pos (starEach es env)).any (·.1)) = false
    rw [ih h.2]; rfl
section
variable {X : Cx} {e : Expr} {es : List Expr} {f : Env → M D} {g : Env → M (List D)}
theorem qa_nil : QA X [] aNil := ⟨fun W tk m S σ σv H P rs re p pos pins s I =>
  pa_nil.run pos pins s σv H _ I ⟨[], S, m, rs, by simp only [RDs], .refl _ _, p m H (.refl _ _) rs⟩⟩
theorem qa_cons (ha : QE X e f) (hr : QA X es g) (hs : PySem.W.isStarred e = false := by rfl) : QA X (e :: es) (aCons f g) := ⟨fun W tk m S σ σv H P rs re p pos pins s I => by
  refine (pa_cons (pw e) (paw es) (star1 hs)).run pos pins s σv H _ I ?_
  refine (ha.run W tk m S σ σv H _ rs re p.bnd).mono ?_
  rintro x H1 ⟨d1, S1, m1, rs1, r1, x1, q1⟩
  intro pos' pins' s' I'
  refine thn (hr.run W tk m1 S1 σ σv H1 _ rs1 (re.mono x1) q1.bnd pos' pins' s' I') ?_
  rintro us s2 ⟨vs, H2, I2, rv, ds, S2, m2, rs2, r2, x2, q2⟩
  refine ⟨vs, H2, I2, rv, d1 :: ds, S2, m2, rs2, ?_, x1.trans x2, q2 m2 H2 (.refl _ _) rs2⟩
  simp only [RDs]
  exact ⟨x, vs, rfl, RD.mono x2 _ _ r1, r2⟩⟩
end

/-! ### displays -/
def mkTup (ds : List D) : Sto → Option (D × Sto) := fun S => match Nat.ble ds.length sizeLine with
  | true => some (.tup ds, S)
  | false => none
def mkLst (ds : List D) : Sto → Option (D × Sto) := fun S => match Nat.ble ds.length sizeLine with
  | true => some (.loc S.n, S.push (.lst ds))
  | false => none
def eTup (g : Env → M (List D)) : Env → M D := fun σ => bnd (g σ) fun ds => up (mkTup ds)
def eLst (g : Env → M (List D)) : Env → M D := fun σ => bnd (g σ) fun ds => up (mkLst ds)
theorem RDs.length {K : PySem.W.Frag} {m : List Addr} {H : Hp} : ∀ {ds : List D} {vs : List V}, RDs K m H ds vs → ds.length = vs.length
  | [], vs, h => by simp only [RDs] at h; subst h; rfl
  | d :: ds, vs, h => by
    simp only [RDs] at h
    obtain ⟨v, r, e, _, t⟩ := h
    subst e
    simp [RDs.length t]
theorem RD.newTup {K : PySem.W.Frag} {m : List Addr} {H : Hp} {p : Addr} {ds : List D} {vs : List V} (hp : H p = none) (r : RDs K m H ds vs) : RD K m (upd H p (.tup vs)) (.tup ds) (.ref p) := by
  simp only [RD]
  exact ⟨p, vs, rfl, SqT.of upd_same, RDs.mono (.new hp) _ _ r⟩
section
variable {X : Cx} {es : List Expr} {g : Env → M (List D)} {pos : Pos}
theorem q_tup {k} (h : QA X es g) : QE X (.Tuple es k pos) (eTup g) := ⟨fun W tk m S σ σv H P rs re p => by
  refine wE.of (pe_tup (paw es)) ?_
  intro pos' pins' s' I'
  refine thn (h.run W tk m S σ σv H _ rs re p.bnd pos' pins' s' I') ?_
  rintro us s2 ⟨vs, H2, I2, rv, ds, S2, m2, rs2, r2, x2, q2⟩
  obtain ⟨d, S', e, q⟩ := q2.up
  unfold mkTup at e
  split at e
  · rename_i hl
    cases e
    refine ⟨vs, H2, I2, rv, by rw [← r2.length]; exact Nat.le_of_ble_eq_true hl, fun t ht => ?_⟩
    have rs3 := rs2.new (o := .tup vs) ht
    exact ⟨.tup ds, S2, m2, rs3, RD.newTup ht r2, x2.trans (.new ht), q m2 _ (.new ht) rs3⟩
  · cases e⟩
theorem q_lst (h : QA X es g) : QE X (.List es pos) (eLst g) := ⟨fun W tk m S σ σv H P rs re p => by
  refine wE.of (pe_lst (paw es)) ?_
  intro pos' pins' s' I'
  refine thn (h.run W tk m S σ σv H _ rs re p.bnd pos' pins' s' I') ?_
  rintro us s2 ⟨vs, H2, I2, rv, ds, S2, m2, rs2, r2, x2, q2⟩
  obtain ⟨d, S', e, q⟩ := q2.up
  unfold mkLst at e
  split at e
  · rename_i hl
    cases e
    refine ⟨vs, H2, I2, rv, by rw [← r2.length]; exact Nat.le_of_ble_eq_true hl, fun t ht => ?_⟩
    obtain ⟨x3, rs3, g3⟩ := rs2.push (o := .lst ds) (u := .lst vs) ht (fun m' H' x => ⟨vs, rfl, RDs.mono x _ _ r2⟩)
    refine ⟨.loc S2.n, S2.push (.lst ds), _, rs3, ?_, x2.trans x3, q _ _ x3 rs3⟩
    simp only [RD]
    exact ⟨t, rfl, g3⟩
  · cases e⟩
end

/-! ### calls of built-ins by their names -/
def eCB (h : FL) (g : Env → M (List D)) : Env → M D := fun σ => bnd (g σ) fun ds => up (h ds)
section
variable {X : Cx} {x : Str} {p pos : Pos} {e : Expr} {es : List Expr} {g : Env → M (List D)} {id T : String} {h : FL}
theorem args (ha : QA X es g) {W : WX} (tk : Takes X W) {m : List Addr} {S : Sto} {σ : Env} {σv : St} {H : Hp} {h : FL} {P : D → Sto → List Addr → Hp → Prop} (rs : RS X.K m S H) (re : RE X.K m H σ σv)
    (p : PostG X.K X.mg m H (eCB h g σ S) P (fun c d H' => W c d σv H')) : wA X es σv H fun xs H1 => rFL X.K h xs H1 (GV X.K m H P) := by
  intro pos' pins' s' I'
  refine thn (ha.run W tk m S σ σv H _ rs re p.bnd pos' pins' s' I') ?_
  rintro us s2 ⟨vs, H2, I2, rv, ds, S2, m2, rs2, r2, x2, q2⟩
  obtain ⟨d, S', e, q⟩ := q2.up
  exact ⟨vs, H2, I2, rv, m2, S2, ds, d, S', rs2, r2, e, fun m' H' v x' rs' rv => ⟨d, S', m', rs', rv, x2.trans x', q m' H' x' rs'⟩⟩
theorem q_callB (hc : CallR X (.builtin id) (rFL X.K h)) (hm : X.mg x = none) (hv : bootBuiltins x = some (.builtin id)) (ha : QA X (e :: es) g) (hg : glB X.env.scope x = true := by kernel_rfl)
    (he : PySem.W.isStarred e = false := by rfl) (hpl : es.any PySem.W.isStarred = false := by rfl) : QE X (.Call (.Name x p) (e :: es) [] pos) (eCB h g) := ⟨fun W tk m S σ σv H P rs re q =>
  wE.of (pe_callB hc (glB_ok hg).1 hm hv (paw (e :: es)) (glB_ok hg).2.2 (glB_ok hg).2.1 (star1 he) (star2 hpl)) (args ha tk rs re q)⟩
theorem q_callTy (hc : CallR X (.type T) (rFL X.K h)) (hm : X.mg x = none) (hv : bootBuiltins x = some (.type T)) (ha : QA X (e :: es) g) (hg : glB X.env.scope x = true := by kernel_rfl)
    (he : PySem.W.isStarred e = false := by rfl) (hpl : es.any PySem.W.isStarred = false := by rfl) : QE X (.Call (.Name x p) (e :: es) [] pos) (eCB h g) := ⟨fun W tk m S σ σv H P rs re q =>
  wE.of (pe_callTy hc (glB_ok hg).1 hm hv (paw (e :: es)) (glB_ok hg).2.2 (glB_ok hg).2.1 (star1 he) (star2 hpl)) (args ha tk rs re q)⟩
end
end L2.Z

set_option Elab.async false
set_option linter.all false
set_option maxRecDepth 100000
set_option maxHeartbeats 4000000
/-! Z3: tests, and or not, calls of defs, statements. -/
namespace L2.Z
open PySem PySem.Spec PyProof.Rows
variable [HasT]

/-! ### truth -/
def tru (d : D) (S : Sto) : Option Bool := match d with
  | .non => some false
  | .bl b => some b
  | .int i => some (i != 0)
  | .str y => match Nat.ble y.length sizeLine with
    | true => some ((y.length : Int) != 0)
    | false => none
  | .tup xs => some (!xs.isEmpty)
  | .loc n => match S.get n with
    | some (.lst xs) => some (!xs.isEmpty)
    | some (.fz xs) => some (!xs.isEmpty)
    | some (.dK kvs) => some (!kvs.isEmpty)
    | _ => none
  | .xc _ _ _ => none
  | .lam _ _ _ _ _ => none
  | .scr ns => some (!ns.isEmpty)
  | .xtp _ => none
  | .adr _ => none
theorem RDs.isEmpty {K : PySem.W.Frag} {m : List Addr} {H : Hp} {ds : List D} {vs : List V} (r : RDs K m H ds vs) : ds.isEmpty = vs.isEmpty := by
  have := r.length
  cases ds <;> cases vs <;> simp_all
theorem RKs.length {κ : Type} {K : PySem.W.Frag} {m : List Addr} {H : Hp} : ∀ {ds : List (κ × D)} {vs : List (κ × V)}, RKs K m H ds vs → ds.length = vs.length
  | [], vs, h => by simp only [RKs] at h; subst h; rfl
  | d :: ds, vs, h => by
    simp only [RKs] at h
    obtain ⟨v, r, e, _, t⟩ := h
    subst e
    simp [RKs.length t]
theorem RKs.isEmpty {κ : Type} {K : PySem.W.Frag} {m : List Addr} {H : Hp} {ds : List (κ × D)} {vs : List (κ × V)} (r : RKs K m H ds vs) : ds.isEmpty = vs.isEmpty := by
  have := r.length
  cases ds <;> cases vs <;> simp_all
theorem tru_V {K : PySem.W.Frag} {m : List Addr} {S : Sto} {H : Hp} {d : D} {v : V} {b : Bool} (rs : RS K m S H) (r : RD K m H d v) (h : tru d S = some b) : TruV K v H b := by
  cases d with
  | non => simp only [RD] at r; subst r; cases h; rfl
  | bl c => simp only [RD] at r; subst r; cases h; rfl
  | int i => simp only [RD] at r; subst r; cases h; rfl
  | str y =>
    simp only [RD] at r; subst r
    simp only [tru] at h
    split at h
    · rename_i q; cases h; exact ⟨Nat.le_of_ble_eq_true q, rfl⟩
    · cases h
  | tup xs =>
    simp only [RD] at r
    obtain ⟨a, vs, e, q, t⟩ := r
    subst e
    cases h
    exact .inr (.inl ⟨vs, q, by rw [t.isEmpty]⟩)
  | loc n =>
    simp only [RD] at r
    obtain ⟨a, e, q⟩ := r
    subst e
    simp only [tru] at h
    cases g : S.get n with
    | none => rw [g] at h; cases h
    | some o =>
      have ro := rs.obj q g
      rw [g] at h
      cases o with
      | lst xs =>
        cases h
        obtain ⟨vs, e, t⟩ := ro
        exact .inl ⟨vs, SqL.of e, by rw [t.isEmpty]⟩
      | fz xs =>
        cases h
        obtain ⟨ob, vs, e, t⟩ := ro
        exact .inl ⟨vs, .inl (.inr ⟨ob, e⟩), by rw [t.isEmpty]⟩
      | dK kvs =>
        cases h
        obtain ⟨vs, e, t⟩ := ro
        exact .inr (.inr ⟨vs, e, by rw [t.isEmpty]⟩)
      | dT _ => cases h
      | fd _ => cases h
  | xc _ _ _ => cases h
  | lam _ _ _ _ _ => cases h
  | scr ns =>
    simp only [RD] at r
    obtain ⟨a, rfl, q⟩ := r
    cases h
    exact .inl ⟨_, q.sq, by cases ns <;> rfl⟩
  | xtp _ => cases h
  | adr _ => cases h

def truM (d : D) : M Bool := fun S => match tru d S with
  | some b => .ok b S
  | none => .bad

/-! ### tests -/
def wT (X : Cx) (e : Expr) (σ : St) (H : Hp) (Q : Bool → Hp → Prop) : Prop := ∀ pins s, Inv X pins σ H s → wpAny (model X.prog X.w) X.A (isTrue e X.env (eval e X.env)) (TP X pins σ Q) X.xe s
theorem ptw {X : Cx} (e : Expr) : PT X e (wT X e) := ⟨fun pins s σ H Q I h => h pins s I⟩
def wW (X : Cx) (e : Expr) (σ : St) (H : Hp) (Q : Bool → Hp → Prop) : Prop := ∀ whole pins s, Inv X pins σ H s → wpAny (model X.prog X.w) X.A (isTrue e X.env whole) (TP X pins σ Q) X.xe s
theorem pww {X : Cx} (e : Expr) : PW X e (wW X e) := ⟨fun whole pins s σ H Q I h => h whole pins s I⟩
theorem wT.of {X : Cx} {e : Expr} {t : TT} (h : PT X e t) {σ : St} {H : Hp} {Q : Bool → Hp → Prop} (q : t σ H Q) : wT X e σ H Q := fun pins s I => h.run pins s σ H Q I q
theorem wW.of {X : Cx} {e : Expr} {t : TT} (h : PW X e t) {σ : St} {H : Hp} {Q : Bool → Hp → Prop} (q : t σ H Q) : wW X e σ H Q := fun whole pins s I => h.run whole pins s σ H Q I q
theorem wT.mono {X : Cx} {e : Expr} {σ : St} {H : Hp} {Q Q' : Bool → Hp → Prop} (h : wT X e σ H Q) (q : ∀ v H', Q v H' → Q' v H') : wT X e σ H Q' := fun pins s I =>
  thn (h pins s I) fun u s' ⟨H', I', z⟩ => ⟨H', I', q _ _ z⟩
theorem wW.mono {X : Cx} {e : Expr} {σ : St} {H : Hp} {Q Q' : Bool → Hp → Prop} (h : wW X e σ H Q) (q : ∀ v H', Q v H' → Q' v H') : wW X e σ H Q' := fun wh pins s I =>
  thn (h wh pins s I) fun u s' ⟨H', I', z⟩ => ⟨H', I', q _ _ z⟩
abbrev GB (K : PySem.W.Frag) (m : List Addr) (H : Hp) (P : Bool → Sto → List Addr → Hp → Prop) : Bool → Hp → Prop := fun b H' => ∃ S' m', RS K m' S' H' ∧ Ext m H m' H' ∧ P b S' m' H'
structure QT (X : Cx) (e : Expr) (f : Env → M Bool) : Prop where
  run : ∀ (W : WX), Takes X W → ∀ (m : List Addr) (S : Sto) (σ : Env) (σv : St) (H : Hp) (P : Bool → Sto → List Addr → Hp → Prop), RS X.K m S H → RE X.K m H σ σv →
  PostG X.K X.mg m H (f σ S) P (fun c d H' => W c d σv H') → wT X e σv H (GB X.K m H P)
structure QW (X : Cx) (e : Expr) (f : Env → M Bool) : Prop where
  run : ∀ (W : WX), Takes X W → ∀ (m : List Addr) (S : Sto) (σ : Env) (σv : St) (H : Hp) (P : Bool → Sto → List Addr → Hp → Prop), RS X.K m S H → RE X.K m H σ σv →
  PostG X.K X.mg m H (f σ S) P (fun c d H' => W c d σv H') → wW X e σv H (GB X.K m H P)
theorem QW.t {X : Cx} {e : Expr} {f : Env → M Bool} (h : QW X e f) : QT X e f := ⟨fun W tk m S σ σv H P rs re p pins s I => h.run W tk m S σ σv H P rs re p _ pins s I⟩

def tV (f : Env → M D) : Env → M Bool := fun σ => bnd (f σ) truM
def tNotM (t : Env → M Bool) : Env → M Bool := fun σ => bnd (t σ) fun b => ret (!b)
def tAndM (t u : Env → M Bool) : Env → M Bool := fun σ => bnd (t σ) fun b => match b with
  | true => u σ
  | false => ret false
def tOrM (t u : Env → M Bool) : Env → M Bool := fun σ => bnd (t σ) fun b => match b with
  | true => ret true
  | false => u σ
theorem PostG.truM {K : PySem.W.Frag} {mg : Str → Option Value} {m : List Addr} {H : Hp} {E : XK} {d : D} {S : Sto} {P : Bool → Sto → List Addr → Hp → Prop} (h : PostG K mg m H (Z.truM d S) P E) (rs : RS K m S H) :
    ∃ b, tru d S = some b ∧ P b S m H := by
  unfold Z.truM at h
  cases e : tru d S with
  | none => rw [e] at h; exact h.elim
  | some b => rw [e] at h; exact ⟨b, rfl, h m H (.refl _ _) rs⟩
def BoolF (h : F2) : Prop := ∀ x y S d S', h x y S = some (d, S') → ∃ b, d = .bl b
section
variable {X : Cx} {a b : Expr} {rest : List Expr} {f g : Env → M D} {t u : Env → M Bool} {pos : Pos}
theorem qt_val (ha : QE X a f) (he : ∀ whole, isTrue a X.env whole = (do let v ← whole; standAt a.pos; holding [v] (truthy v)) := by intro _; rfl) : QT X a (tV f) := ⟨fun W tk m S σ σv H P rs re p => by
  refine wT.of (pt_truth (pw a) he) ?_
  refine (ha.run W tk m S σ σv H _ rs re p.bnd).mono ?_
  rintro x H1 ⟨d1, S1, m1, rs1, r1, x1, q1⟩
  obtain ⟨b, e, q⟩ := q1.truM rs1
  exact ⟨b, tru_V rs1 r1 e, S1, m1, rs1, x1, q⟩⟩
theorem qt_cmp {op : CmpOp} {h : F2} (hb : BoolF h) (ho : OpR X (compareOp op) (rF2 X.K h)) (ha : QE X a f) (hc : QE X b g) (hm : behindInMarks op b = false) : QT X (.Compare a [op] [b] pos) (tV (e2 h f g)) := ⟨fun W tk m S σ σv H P rs re p => by
  refine wT.of (pt_cmpR ho (pw a) (pw b) hm) ?_
  have p1 := p.bnd
  refine (two ha hc tk rs re p1).mono ?_
  intro x H1 q1
  refine wE.mono q1 ?_
  rintro y H2 ⟨m2, S2, d1, d2, d, S', rs2, r1, r2, e, q⟩
  refine ⟨m2, S2, d1, d2, d, S', rs2, r1, r2, e, fun m' H' v x' rs' rv => ?_⟩
  obtain ⟨dd, SS, mm, rs3, rv3, x3, q3⟩ := q m' H' v x' rs' rv
  obtain ⟨k, ek, q4⟩ := q3.truM rs3
  obtain ⟨kk, rfl⟩ := hb _ _ _ _ _ e
  simp only [RD] at rv
  subst rv
  cases dd with
  | bl c =>
    simp only [RD] at rv3
    cases rv3
    cases ek
    exact ⟨_, rfl, SS, mm, rs3, x3, q4⟩
  | non => simp only [RD] at rv3; cases rv3
  | int i => simp only [RD] at rv3; cases rv3
  | str i => simp only [RD] at rv3; cases rv3
  | tup i => simp only [RD] at rv3; obtain ⟨_, _, z, _⟩ := rv3; cases z
  | loc i => simp only [RD] at rv3; obtain ⟨_, z, _⟩ := rv3; cases z
  | xc _ _ _ => simp only [RD] at rv3; obtain ⟨_, _, _, z, _⟩ := rv3; cases z
  | lam _ _ _ _ _ => simp only [RD] at rv3; obtain ⟨z, _⟩ := rv3; cases z
  | scr _ => simp only [RD] at rv3; obtain ⟨_, z, _⟩ := rv3; cases z
  | xtp _ => simp only [RD] at rv3; obtain ⟨_, _, _, z, _⟩ := rv3; cases z
  | adr _ => simp only [RD] at rv3; cases rv3⟩
theorem qt_not (ha : QT X a t) : QT X (.UnaryOp .Not a pos) (tNotM t) := ⟨fun W tk m S σ σv H P rs re p => by
  refine wT.of (pt_not (ptw a)) ?_
  refine (ha.run W tk m S σ σv H _ rs re p.bnd).mono ?_
  rintro b H1 ⟨S1, m1, rs1, x1, q1⟩
  exact ⟨S1, m1, rs1, x1, q1 m1 H1 (.refl _ _) rs1⟩⟩
theorem qw_and1 (ha : QT X a t) : QW X (.BoolOp .And [a] pos) t := ⟨fun W tk m S σ σv H P rs re p => wW.of (pw_and1 (ptw a)) (ha.run W tk m S σ σv H P rs re p)⟩
theorem qw_or1 (ha : QT X a t) : QW X (.BoolOp .Or [a] pos) t := ⟨fun W tk m S σ σv H P rs re p => wW.of (pw_or1 (ptw a)) (ha.run W tk m S σ σv H P rs re p)⟩
theorem GB.trans {K : PySem.W.Frag} {m m1 : List Addr} {H H1 : Hp} {P : Bool → Sto → List Addr → Hp → Prop} (x : Ext m H m1 H1) {b : Bool} {H' : Hp} (h : GB K m1 H1 P b H') : GB K m H P b H' := by
  obtain ⟨S', m', rs, x', q⟩ := h
  exact ⟨S', m', rs, x.trans x', q⟩
theorem qw_and (ha : QT X a t) (hb : QW X (.BoolOp .And (b :: rest) pos) u) : QW X (.BoolOp .And (a :: b :: rest) pos) (tAndM t u) := ⟨fun W tk m S σ σv H P rs re p => by
  refine wW.of (pw_and (ptw a) (pww _)) ?_
  refine (ha.run W tk m S σ σv H _ rs re p.bnd).mono ?_
  rintro c H1 ⟨S1, m1, rs1, x1, q1⟩
  cases c with
  | true => exact iteT ((hb.run W tk m1 S1 σ σv H1 P rs1 (re.mono x1) q1).mono fun v H' => GB.trans x1)
  | false => exact iteF ⟨S1, m1, rs1, x1, q1 m1 H1 (.refl _ _) rs1⟩⟩
theorem qw_or (ha : QT X a t) (hb : QW X (.BoolOp .Or (b :: rest) pos) u) : QW X (.BoolOp .Or (a :: b :: rest) pos) (tOrM t u) := ⟨fun W tk m S σ σv H P rs re p => by
  refine wW.of (pw_or (ptw a) (pww _)) ?_
  refine (ha.run W tk m S σ σv H _ rs re p.bnd).mono ?_
  rintro c H1 ⟨S1, m1, rs1, x1, q1⟩
  cases c with
  | true => exact iteT ⟨S1, m1, rs1, x1, q1 m1 H1 (.refl _ _) rs1⟩
  | false => exact iteF ((hb.run W tk m1 S1 σ σv H1 P rs1 (re.mono x1) q1).mono fun v H' => GB.trans x1)⟩
end

/-! ### values of and, or, not, if -/
def eNot (t : Env → M D) : Env → M D := fun σ => bnd (t σ) fun x => match x with
  | .bl b => ret (.bl (!b))
  | _ => bad
def eAnd (f g : Env → M D) : Env → M D := fun σ => bnd (f σ) fun x => match x with
  | .bl true => g σ
  | .bl false => ret (.bl false)
  | _ => bad
def eOr (f g : Env → M D) : Env → M D := fun σ => bnd (f σ) fun x => match x with
  | .bl true => ret (.bl true)
  | .bl false => g σ
  | _ => bad
def eIf (t : Env → M Bool) (f g : Env → M D) : Env → M D := fun σ => bnd (t σ) fun b => match b with
  | true => f σ
  | false => g σ
theorem GV.trans {K : PySem.W.Frag} {m m1 : List Addr} {H H1 : Hp} {P : D → Sto → List Addr → Hp → Prop} (x : Ext m H m1 H1) {v : V} {H' : Hp} (h : GV K m1 H1 P v H') : GV K m H P v H' := by
  obtain ⟨d, S', m', rs, r, x', q⟩ := h
  exact ⟨d, S', m', rs, r, x.trans x', q⟩
section
variable {X : Cx} {a b c : Expr} {rest : List Expr} {f g : Env → M D} {t u : Env → M Bool} {pos : Pos}
theorem q_not (ha : QE X a f) : QE X (.UnaryOp .Not a pos) (eNot f) := ⟨fun W tk m S σ σv H P rs re p => by
  refine wE.of (pe_not (pw a)) ?_
  refine (ha.run W tk m S σ σv H _ rs re p.bnd).mono ?_
  rintro x H1 ⟨d1, S1, m1, rs1, r1, x1, q1⟩
  cases d1 with
  | bl k =>
    simp only [RD] at r1
    exact ⟨k, r1, .bl (!k), S1, m1, rs1, by simp only [RD], x1, q1 m1 H1 (.refl _ _) rs1⟩
  | _ => exact q1.elim⟩
theorem q_one {op} (h : QE X a f) : QE X (.BoolOp op [a] pos) f := ⟨fun W tk m S σ σv H P rs re p => wE.of (pe_one (pw a)) (h.run W tk m S σ σv H P rs re p)⟩
theorem q_and (ha : QE X a f) (hb : QE X (.BoolOp .And (b :: rest) pos) g) : QE X (.BoolOp .And (a :: b :: rest) pos) (eAnd f g) := ⟨fun W tk m S σ σv H P rs re p => by
  refine wE.of (pe_and (pw a) (pw _)) ?_
  refine (ha.run W tk m S σ σv H _ rs re p.bnd).mono ?_
  rintro x H1 ⟨d1, S1, m1, rs1, r1, x1, q1⟩
  cases d1 with
  | bl k =>
    simp only [RD] at r1
    refine ⟨k, r1, ?_⟩
    cases k with
    | true => exact iteT ((hb.run W tk m1 S1 σ σv H1 P rs1 (re.mono x1) q1).mono fun v H' => GV.trans x1)
    | false => exact iteF ⟨.bl false, S1, m1, rs1, by simp only [RD], x1, q1 m1 H1 (.refl _ _) rs1⟩
  | _ => exact q1.elim⟩
theorem q_or (ha : QE X a f) (hb : QE X (.BoolOp .Or (b :: rest) pos) g) : QE X (.BoolOp .Or (a :: b :: rest) pos) (eOr f g) := ⟨fun W tk m S σ σv H P rs re p => by
  refine wE.of (pe_or (pw a) (pw _)) ?_
  refine (ha.run W tk m S σ σv H _ rs re p.bnd).mono ?_
  rintro x H1 ⟨d1, S1, m1, rs1, r1, x1, q1⟩
  cases d1 with
  | bl k =>
    simp only [RD] at r1
    refine ⟨k, r1, ?_⟩
    cases k with
    | true => exact iteT ⟨.bl true, S1, m1, rs1, by simp only [RD], x1, q1 m1 H1 (.refl _ _) rs1⟩
    | false => exact iteF ((hb.run W tk m1 S1 σ σv H1 P rs1 (re.mono x1) q1).mono fun v H' => GV.trans x1)
  | _ => exact q1.elim⟩
theorem q_if (hc : QT X c t) (ha : QE X a f) (hb : QE X b g) : QE X (.IfExp c a b pos) (eIf t f g) := ⟨fun W tk m S σ σv H P rs re p => by
  refine wE.of (pe_ifExp (ptw c) (pw a) (pw b)) ?_
  refine (hc.run W tk m S σ σv H _ rs re p.bnd).mono ?_
  rintro k H1 ⟨S1, m1, rs1, x1, q1⟩
  cases k with
  | true => exact iteT ((ha.run W tk m1 S1 σ σv H1 P rs1 (re.mono x1) q1).mono fun v H' => GV.trans x1)
  | false => exact iteF ((hb.run W tk m1 S1 σ σv H1 P rs1 (re.mono x1) q1).mono fun v H' => GV.trans x1)⟩
end

/-! ### a op b op c -/
def eChain (h h' : F2) (f g k : Env → M D) : Env → M D := fun σ => bnd (f σ) fun x => bnd (g σ) fun y => bnd (up (h x y)) fun z => match z with
  | .bl true => bnd (k σ) fun w => up (h' y w)
  | .bl false => ret (.bl false)
  | _ => bad
section
variable {X : Cx} {a b c : Expr} {f g k : Env → M D} {pos : Pos} {op op' : CmpOp} {h h' : F2}
theorem chain_reads (ho : OpR X (compareOp op) (rF2 X.K h)) (ho' : OpR X (compareOp op') (rF2 X.K h')) (ha : QE X a f) (hb : QE X b g) (hc : QE X c k) {W : WX} (tk : Takes X W) {m : List Addr} {S : Sto} {σ : Env} {σv : St} {H : Hp} {P : D → Sto → List Addr → Hp → Prop} (rs : RS X.K m S H) (re : RE X.K m H σ σv)
    (p : PostG X.K X.mg m H (eChain h h' f g k σ S) P (fun c d H' => W c d σv H')) : tChain (rF2 X.K h) (rF2 X.K h') (wE X a) (wE X b) (wE X c) σv H (GV X.K m H P) := by
  refine (ha.run W tk m S σ σv H _ rs re p.bnd).mono ?_
  rintro x H1 ⟨d1, S1, m1, rs1, r1, x1, q1⟩
  refine (hb.run W tk m1 S1 σ σv H1 _ rs1 (re.mono x1) q1.bnd).mono ?_
  rintro y H2 ⟨d2, S2, m2, rs2, r2, x2, q2⟩
  obtain ⟨d, S', e, q⟩ := q2.bnd.up
  refine ⟨m2, S2, d1, d2, d, S', rs2, RD.mono x2 _ _ r1, r2, e, fun m3 H3 v x3 rs3 rv => ?_⟩
  have q3 := q m3 H3 x3 rs3
  cases d with
  | bl kk =>
    simp only [RD] at rv
    refine ⟨kk, rv, ?_⟩
    cases kk with
    | true =>
      refine iteT ?_
      refine (hc.run W tk m3 S' σ σv H3 _ rs3 (((re.mono x1).mono x2).mono x3) q3.bnd).mono ?_
      rintro w H4 ⟨d4, S4, m4, rs4, r4, x4, q4⟩
      obtain ⟨d5, S5, e5, q5⟩ := q4.up
      exact ⟨m4, S4, d2, d4, d5, S5, rs4, RD.mono (x3.trans x4) _ _ r2, r4, e5, fun m' H' v x' rs' rv => ⟨d5, S5, m', rs', rv, (((x1.trans x2).trans x3).trans x4).trans x', q5 m' H' x' rs'⟩⟩
    | false => exact iteF ⟨.bl false, S', m3, rs3, by simp only [RD], (x1.trans x2).trans x3, q3 m3 H3 (.refl _ _) rs3⟩
  | _ => exact q3.elim
theorem q_chain (ho : OpR X (compareOp op) (rF2 X.K h)) (ho' : OpR X (compareOp op') (rF2 X.K h')) (ha : QE X a f) (hb : QE X b g) (hc : QE X c k) (hm : lastMarks [op, op'] [b, c] = false) : QE X (.Compare a [op, op'] [b, c] pos) (eChain h h' f g k) := ⟨fun W tk m S σ σv H P rs re p =>
  wE.of (pe_chain ho ho' (pw a) (pw b) (pw c) hm) (chain_reads ho ho' ha hb hc tk rs re p)⟩
end

/-! ### calls of the text's own defs -/
abbrev Orc := Nat → List D → M D
def eCall (c : Orc) (i : Nat) (g : Env → M (List D)) : Env → M D := fun σ => bnd (g σ) fun ds => c i ds
/-- a def's promise by the evaluator -/
def spZ (K : PySem.W.Frag) (mg : Str → Option Value) (n : Nat) (c : List D → M D) : Sp := fun vs H Q E => ∃ m S ds, vs.length = n ∧ RS K m S H ∧ RDs K m H ds vs ∧ PostG K mg m H (c ds S) (fun d S' m' H' => ∀ v, RD K m' H' d v → Q v H') E
def Ary (n : Nat) (c : List D → M D) : Prop := ∀ ds S, ds.length ≠ n → c ds S = .bad
theorem spZ_of {K : PySem.W.Frag} {mg : Str → Option Value} {n : Nat} {c : List D → M D} (hc : Ary n c) {m0 m : List Addr} {H0 H : Hp} {S : Sto} {ds : List D} {vs : List V} {P : D → Sto → List Addr → Hp → Prop} {E : XK} (rs : RS K m S H) (r : RDs K m H ds vs) (x : Ext m0 H0 m H)
    (p : PostG K mg m H (c ds S) P E) : spZ K mg n c vs H (GV K m0 H0 P) E := by
  by_cases hl : ds.length = n
  · refine ⟨m, S, ds, by rw [← r.length]; exact hl, rs, r, ?_⟩
    cases e : c ds S with
    | ok d S' =>
      rw [e] at p
      exact fun m' H' x' rs' v rv => ⟨d, S', m', rs', rv, x.trans x', p m' H' x' rs'⟩
    | exc y S' =>
      rw [e] at p
      exact p
    | bad =>
      rw [e] at p
      exact p
  · rw [hc ds S hl] at p
    exact p.elim
/-! ### room, with no repr under way -/
structure Rm (k : Nat) (A : Around) : Prop extends Room k A where
  gd : A.guards = some []
omit [HasT] in
theorem Rm.mono {j k : Nat} {A : Around} (r : Rm k A) (h : j ≤ k) : Rm j A := ⟨r.toRoom.mono h, r.gd⟩
omit [HasT] in
theorem Rm.deeper {k : Nat} {A : Around} (r : Rm (k + 1) A) (env : PySem.Env) : Rm k (A.deeper env) := ⟨r.toRoom.deeper env, r.gd⟩
omit [HasT] in
theorem Rm.in1 {k : Nat} {A : Around} (r : Rm (k + 1) A) : Rm k A.in1 := ⟨r.toRoom.in1, r.gd⟩
/-- a def's promise where no repr is under way -/
structure FnG (P : Program) (w : World) (K : PySem.W.Frag) (mg : Str → Option Value) (base : Heap) (k : Nat) (f : Addr) (fd : FuncData) (ps : List Str) (sp : Sp) : Prop where
  len : ∀ vs H Q E, sp vs H Q E → vs.length = ps.length
  run : ∀ (A : Around) (outer : List PySem.Env) (s : Shared) (H : Hp) (args : Args) (us : List Value) (vs : List V) (Q : VK) (E : XK), Rm k A → Env0 P w K mg base A outer s H → BindsTo s fd args (ps.zip us) → Vals vs us → sp vs H Q E →
    codeAny (model P w) A (.call (.ref f) args) (CR (L2.CX P w) outer P w H s Q E) s
theorem FnG.go {X : Cx} {k : Nat} {f : Addr} {fd : FuncData} {ps : List Str} {sp : Sp} {pins : List (Addr × Obj)} {σ : St} {H : Hp} {s : Shared} {Q : VK} {E : XK} {us : List Value} {vs : List V} (F : FnG X.prog X.w X.K X.mg X.base k f fd ps sp) (hr : Rm k X.A) (hb : Binds X.K fd ps [])
    (hx : PassesAt (L2.CX X.prog X.w) X σ E) (I : Inv X pins σ H s) (r : Vals vs us) (h : sp vs H Q E) : wpAny (model X.prog X.w) X.A (call (.ref f) us) (EP X pins σ Q) X.xe s := by
  have hl : (us ++ []).length = ps.length := by rw [List.append_nil, ← r.length]; exact F.len _ _ _ _ h
  have z := hb s us I.kIn hl
  rw [List.append_nil] at z
  have go := F.run X.A X.stack s H ⟨us, []⟩ us vs Q E hr I.env0 z r h
  refine wpAny_call (codeAny_mono go fun res s' hq => ?_)
  match res, hq with
  | .error e, hq => exact hx pins H s e s' I hq
  | .ok (.ret u), hq => exact I.after hq
section
variable {X : Cx} {k : Nat} {fa : Addr} {fd : FuncData} {ps : List Str} {x : Str} {p pos : Pos} {e : Expr} {es : List Expr} {g : Env → M (List D)} {c : Orc} {i : Nat}
/-- what is known of a def: where it stands, its promise -/
structure Kn (P : Program) (w : World) (K : PySem.W.Frag) (mg : Str → Option Value) (base : Heap) (k : Nat) (x : Str) (n : Nat) (c : List D → M D) : Prop where
  ex : ∃ fa fd ps, ps.length = n ∧ FnG P w K mg base k fa fd ps (spZ K mg n c) ∧ mg x = some (.ref fa) ∧ PySem.W.keepIn K (.ref fa) = true ∧ Binds K fd ps []
  ary : Ary n c
theorem q_call {n : Nat} (F : Kn X.prog X.w X.K X.mg X.base k x n (c i)) (hr : Rm k X.A) (ha : QA X (e :: es) g)
    (hg : glB X.env.scope x = true := by kernel_rfl) (he : PySem.W.isStarred e = false := by rfl) (hpl : es.any PySem.W.isStarred = false := by rfl) : QE X (.Call (.Name x p) (e :: es) [] pos) (eCall c i g) := ⟨fun W tk m S σ σv H P rs re q => by
  obtain ⟨fa, fd, ps, hl, F1, hm, hk, hb⟩ := F.ex
  intro pins s I
  refine wpAny_Call_Name_kw (ld_glob I (glB_ok hg).1 hm ?_ (glB_ok hg).2.1)
  refine PySem.W.callWith_K (h₀ := X.base) I.ok.mod.kin hk (thn (ha.run W tk m S σ σv H _ rs re q.bnd pos pins s I) ?_) (star1 he) (star2 hpl)
  rintro us s2 ⟨vs, H2, I2, rv, ds, S2, m2, rs2, r2, x2, q2⟩
  exact ⟨I2.kIn, F1.go hr hb (passAt tk σv) I2 rv (spZ_of F.ary rs2 r2 x2 q2)⟩⟩
theorem q_call0 {n : Nat} (F : Kn X.prog X.w X.K X.mg X.base k x n (c i)) (hr : Rm k X.A)
    (hg : glB X.env.scope x = true := by kernel_rfl) : QE X (.Call (.Name x p) [] [] pos) (eCall c i aNil) := ⟨fun W tk m S σ σv H P rs re q => by
  obtain ⟨fa, fd, ps, hl, F1, hm, hk, hb⟩ := F.ex
  intro pins s I
  refine wpAny_Call_Name_kw (ld_glob I (glB_ok hg).1 hm ?_ (glB_ok hg).2.1)
  have q2 := q.bnd m H (.refl _ _) rs
  exact PySem.W.callWith_K0 I.kIn hk (F1.go (us := []) hr hb (passAt tk σv) I .nil (spZ_of (ds := []) (vs := []) F.ary rs (by simp only [RDs]) (.refl _ _) q2))⟩
end
end L2.Z

set_option Elab.async false
set_option linter.all false
set_option maxRecDepth 100000
set_option maxHeartbeats 4000000
/-! Z4: statements, targets, loops. -/
namespace L2.Z
open PySem PySem.Spec PyProof.Rows
variable [HasT]

inductive Fl where
  | nx | bk | ct | rt (d : D) | xc (x : Xc)
abbrev Sm := Env → M (Fl × Env)

def PostS (K : PySem.W.Frag) (mg : Str → Option Value) (m : List Addr) (H : Hp) (r : Res (Fl × Env)) (Dn : Ends) (W : WX) : Prop := match r with
  | .ok (.nx, σ') S' => ∀ m' H' σv', Ext m H m' H' → RS K m' S' H' → RE K m' H' σ' σv' → Dn.nx σv' H'
  | .ok (.bk, σ') S' => ∀ m' H' σv', Ext m H m' H' → RS K m' S' H' → RE K m' H' σ' σv' → Dn.bk σv' H'
  | .ok (.ct, σ') S' => ∀ m' H' σv', Ext m H m' H' → RS K m' S' H' → RE K m' H' σ' σv' → Dn.ct σv' H'
  | .ok (.rt d, _) S' => ∀ m' H' v, Ext m H m' H' → RS K m' S' H' → RD K m' H' d v → Dn.rt v H'
  | .ok (.xc x, σ') S' => ∀ m' H' σv' c d, Ext m H m' H' → RS K m' S' H' → RE K m' H' σ' σv' → RX K m' H' mg x c d → W c d σv' H'
  | .exc _ _ => False
  | .bad => False
theorem PostS.ext {K : PySem.W.Frag} {mg : Str → Option Value} {m m1 : List Addr} {H H1 : Hp} {r : Res (Fl × Env)} {Dn : Ends} {W : WX} (h : PostS K mg m H r Dn W) (x : Ext m H m1 H1) : PostS K mg m1 H1 r Dn W := by
  cases r with
  | exc _ _ => exact h
  | bad => exact h
  | ok p S =>
    obtain ⟨fl, σ⟩ := p
    cases fl with
    | nx => exact fun m' H' σv' y rs re => h m' H' σv' (x.trans y) rs re
    | bk => exact fun m' H' σv' y rs re => h m' H' σv' (x.trans y) rs re
    | ct => exact fun m' H' σv' y rs re => h m' H' σv' (x.trans y) rs re
    | rt d => exact fun m' H' v y rs rd => h m' H' v (x.trans y) rs rd
    | xc d => exact fun m' H' σv' c dd y rs re rx => h m' H' σv' c dd (x.trans y) rs re rx

def wS (X : Cx) (st : Stmt) (Dn : Ends) (σ : St) (H : Hp) : Prop := ∀ pins s, Inv X pins σ H s → wpAny (model X.prog X.w) X.A (exec st X.env) (SP X pins Dn) X.xe s
def wSs (X : Cx) (st : List Stmt) (Dn : Ends) (σ : St) (H : Hp) : Prop := ∀ pins s, Inv X pins σ H s → wpAny (model X.prog X.w) X.A (execs st X.env) (SP X pins Dn) X.xe s
theorem psw {X : Cx} (st : Stmt) : PS X st (wS X st) := ⟨fun pins s σ H D I h => h pins s I⟩
theorem pssw {X : Cx} (st : List Stmt) : PSs X st (wSs X st) := ⟨fun pins s σ H D I h => h pins s I⟩
theorem wS.of {X : Cx} {st : Stmt} {t : TS} (h : PS X st t) {Dn : Ends} {σ : St} {H : Hp} (q : t Dn σ H) : wS X st Dn σ H := fun pins s I => h.run pins s σ H Dn I q
theorem wSs.of {X : Cx} {st : List Stmt} {t : TS} (h : PSs X st t) {Dn : Ends} {σ : St} {H : Hp} (q : t Dn σ H) : wSs X st Dn σ H := fun pins s I => h.run pins s σ H Dn I q

structure QS (X : Cx) (st : Stmt) (g : Sm) : Prop where
  run : ∀ (W : WX), Takes X W → ∀ (m : List Addr) (S : Sto) (σ : Env) (σv : St) (H : Hp) (Dn : Ends), RS X.K m S H → RE X.K m H σ σv → PostS X.K X.mg m H (g σ S) Dn W → wS X st Dn σv H
structure QSs (X : Cx) (st : List Stmt) (g : Sm) : Prop where
  run : ∀ (W : WX), Takes X W → ∀ (m : List Addr) (S : Sto) (σ : Env) (σv : St) (H : Hp) (Dn : Ends), RS X.K m S H → RE X.K m H σ σv → PostS X.K X.mg m H (g σ S) Dn W → wSs X st Dn σv H

def sNil : Sm := fun σ => ret (.nx, σ)
def sSeq (g1 g2 : Sm) : Sm := fun σ S => match g1 σ S with
  | .ok (.nx, σ') S' => g2 σ' S'
  | r => r
/-- an expression's value, then what follows; an exception is noted with the names as they stand -/
def sE {α : Type} (f : M α) (σ : Env) (k : α → M (Fl × Env)) : M (Fl × Env) := fun S => match f S with
  | .ok a S' => k a S'
  | .exc x S' => .ok (.xc x, σ) S'
  | .bad => .bad
theorem PostS.sE {α : Type} {K : PySem.W.Frag} {mg : Str → Option Value} {m : List Addr} {H : Hp} {f : M α} {σ : Env} {σv : St} {k : α → M (Fl × Env)} {S : Sto} {Dn : Ends} {W : WX} (re : RE K m H σ σv) (h : PostS K mg m H (Z.sE f σ k S) Dn W) :
    PostG K mg m H (f S) (fun a S1 m1 H1 => PostS K mg m1 H1 (k a S1) Dn W) (fun c d H' => W c d σv H') := by
  unfold Z.sE at h
  cases e : f S with
  | ok a S1 => rw [e] at h; exact fun m' H' x rs => PostS.ext h x
  | exc a S1 => rw [e] at h; exact fun m' H' c d x rs rx => h m' H' σv c d x rs (re.mono x) rx
  | bad => rw [e] at h; exact h
def sDrop (f : Env → M D) : Sm := fun σ => sE (f σ) σ fun _ => ret (.nx, σ)
def sRet (f : Env → M D) : Sm := fun σ => sE (f σ) σ fun d => ret (.rt d, σ)
def sRetN : Sm := fun σ => ret (.rt .non, σ)
def sIf (t : Env → M Bool) (a b : Sm) : Sm := fun σ => sE (t σ) σ fun c => match c with
  | true => a σ
  | false => b σ
def sSet (i : Nat) (f : Env → M D) : Sm := fun σ => sE (f σ) σ fun d => ret (.nx, σ.set i (some d))
section
variable {X : Cx} {st : Stmt} {rest : List Stmt} {g h : Sm} {e : Expr} {f : Env → M D} {pos : Pos}
theorem qss_nil : QSs X [] sNil := ⟨fun W tk m S σ σv H Dn rs re p => wSs.of pss_nil (p m H σv (.refl _ _) rs re)⟩
theorem qss_cons (h1 : QS X st g) (h2 : QSs X rest h) : QSs X (st :: rest) (sSeq g h) := ⟨fun W tk m S σ σv H Dn rs re p => by
  refine wSs.of (pss_cons (psw st) (pssw rest)) ?_
  refine h1.run W tk m S σ σv H _ rs re ?_
  unfold sSeq at p
  cases e : g σ S with
  | ok q S1 =>
    obtain ⟨fl, σ1⟩ := q
    rw [e] at p
    cases fl with
    | nx => exact fun m' H' σv' x rs' re' => h2.run W tk m' S1 σ1 σv' H' Dn rs' re' (PostS.ext p x)
    | bk => exact p
    | ct => exact p
    | rt d => exact p
    | xc d => exact p
  | exc _ _ => rw [e] at p; exact p
  | bad => rw [e] at p; exact p⟩
theorem qss_one (h1 : QS X st g) : QSs X [st] g := ⟨fun W tk m S σ σv H Dn rs re p => wSs.of (pss_one (psw st)) (h1.run W tk m S σ σv H Dn rs re p)⟩
theorem qs_pass : QS X (.Pass pos) sNil := ⟨fun W tk m S σ σv H Dn rs re p => wS.of ps_pass (p m H σv (.refl _ _) rs re)⟩
theorem qs_expr (he : QE X e f) (hs : swapsWith e none pos.line X.env = pure false := by rfl) : QS X (.Expr e pos) (sDrop f) := ⟨fun W tk m S σ σv H Dn rs re p => by
  refine wS.of (ps_expr (pw e) hs) ?_
  refine (he.run W tk m S σ σv H _ rs re (PostS.sE re p)).mono ?_
  rintro v H1 ⟨d, S1, m1, rs1, r1, x1, q1⟩
  exact q1 m1 H1 σv (.refl _ _) rs1 (re.mono x1)⟩
theorem qs_ret (he : QE X e f) : QS X (.Return (some e) pos) (sRet f) := ⟨fun W tk m S σ σv H Dn rs re p => by
  refine wS.of (ps_ret (pw e)) ?_
  refine (he.run W tk m S σ σv H _ rs re (PostS.sE re p)).mono ?_
  rintro v H1 ⟨d, S1, m1, rs1, r1, x1, q1⟩
  exact q1 m1 H1 v (.refl _ _) rs1 r1⟩
theorem qs_retN : QS X (.Return none pos) sRetN := ⟨fun W tk m S σ σv H Dn rs re p => wS.of ps_retN (p m H .non (.refl _ _) rs (by simp only [RD]))⟩
theorem qs_if {c : Expr} {a b : List Stmt} {t : Env → M Bool} (hc : QT X c t) (ha : QSs X a g) (hb : QSs X b h) : QS X (.If c a b pos) (sIf t g h) := ⟨fun W tk m S σ σv H Dn rs re p => by
  refine wS.of (ps_if (ptw c) (pssw a) (pssw b)) ?_
  refine (hc.run W tk m S σ σv H _ rs re (PostS.sE re p)).mono ?_
  rintro k H1 ⟨S1, m1, rs1, x1, q1⟩
  cases k with
  | true => exact iteT (ha.run W tk m1 S1 σ σv H1 Dn rs1 (re.mono x1) q1)
  | false => exact iteF (hb.run W tk m1 S1 σ σv H1 Dn rs1 (re.mono x1) q1)⟩
theorem qs_set (i : Nat) {x : Str} {pos' : Pos} (hN : X.N.Nodup) (he : QE X e f) (hi : X.N[i]? = some x := by kernel_rfl) (hx : locB X.env.scope x = true := by kernel_rfl) (hs : swapsWith e (some (.Name x pos')) pos.line X.env = pure false := by rfl)
    (hf : (X.fn x || lclB X.env.scope x) = true := by kernel_rfl) : QS X (.Assign [.Name x pos'] e pos) (sSet i f) := ⟨fun W tk m S σ σv H Dn rs re p => by
  refine wS.of (ps_set hN hi (locB_ok hx) (pw e) hs (fnB_ok hf)) ?_
  refine (he.run W tk m S σ σv H _ rs re (PostS.sE re p)).mono ?_
  rintro v H1 ⟨d, S1, m1, rs1, r1, x1, q1⟩
  exact q1 m1 H1 _ (.refl _ _) rs1 ((re.mono x1).set r1 i)⟩
end

/-! ### targets -/
def wG (X : Cx) (tg : Expr) (v : V) (σ : St) (H : Hp) (Q : St → Hp → Prop) : Prop := ∀ pins s u, Inv X pins σ H s → RelV v u → wpAny (model X.prog X.w) X.A (assign tg X.env u) (fun _ s' => ∃ σ' H', Inv X pins σ' H' s' ∧ Q σ' H') X.xe s
theorem pgw {X : Cx} (tg : Expr) : PG X tg (wG X tg) := ⟨fun pins s σ H v u Q I r h => h pins s u I r⟩
theorem wG.of {X : Cx} {tg : Expr} {t : TG} (h : PG X tg t) {v : V} {σ : St} {H : Hp} {Q : St → Hp → Prop} (q : t v σ H Q) : wG X tg v σ H Q := fun pins s u I r => h.run pins s σ H v u Q I r q
def wGs (X : Cx) (tg : List Expr) (vs : List V) (σ : St) (H : Hp) (Q : St → Hp → Prop) : Prop := ∀ pins s us, Inv X pins σ H s → Vals vs us → wpAny (model X.prog X.w) X.A (assignInOrder ((assignEach tg X.env).map (·.2)) us) (fun _ s' => ∃ σ' H', Inv X pins σ' H' s' ∧ Q σ' H') X.xe s
theorem pgsw {X : Cx} (tg : List Expr) : PGs X tg (wGs X tg) := ⟨fun pins s σ H vs us Q I r h => h pins s us I r⟩
theorem wGs.of {X : Cx} {tg : List Expr} {t : TGs} (h : PGs X tg t) {vs : List V} {σ : St} {H : Hp} {Q : St → Hp → Prop} (q : t vs σ H Q) : wGs X tg vs σ H Q := fun pins s us I r => h.run pins s σ H vs us Q I r q
/-- slots outside of vs stand -/
def OnlyS (vs : List Nat) (σ σ' : St) : Prop := σ.length = σ'.length ∧ ∀ i, i ∉ vs → σ'[i]? = σ[i]?
/-- a target: what it makes of the names (no store changes) -/
abbrev Tg := D → Env → Option Env
abbrev Tgs := List D → Env → Option Env
structure QG (X : Cx) (tg : Expr) (vs : List Nat) (t : Tg) : Prop where
  run : ∀ (m : List Addr) (S : Sto) (σ σ' : Env) (σv : St) (H : Hp) (d : D) (v : V) (Q : St → Hp → Prop), RS X.K m S H → RE X.K m H σ σv → RD X.K m H d v → t d σ = some σ' → (∀ σv', RE X.K m H σ' σv' → OnlyS vs σv σv' → Q σv' H) → wG X tg v σv H Q
structure QGs (X : Cx) (tg : List Expr) (vs : List Nat) (t : Tgs) : Prop where
  run : ∀ (m : List Addr) (S : Sto) (σ σ' : Env) (σv : St) (H : Hp) (ds : List D) (ws : List V) (Q : St → Hp → Prop), RS X.K m S H → RE X.K m H σ σv → RDs X.K m H ds ws → t ds σ = some σ' → (∀ σv', RE X.K m H σ' σv' → OnlyS vs σv σv' → Q σv' H) → wGs X tg ws σv H Q
def gN (i : Nat) : Tg := fun d σ => some (σ.set i (some d))
def gNil' : Tgs := fun ds σ => match ds with
  | [] => some σ
  | _ => none
def gCons' (t : Tg) (u : Tgs) : Tgs := fun ds σ => match ds with
  | d :: r => (t d σ).bind (u r)
  | [] => none
def gT (t : Tgs) : Tg := fun d σ => match d with
  | .tup ds => t ds σ
  | _ => none
theorem OnlyS.refl (vs : List Nat) (σ : St) : OnlyS vs σ σ := ⟨rfl, fun _ _ => rfl⟩
theorem OnlyS.trans {vs ws : List Nat} {σ σ1 σ2 : St} (a : OnlyS vs σ σ1) (b : OnlyS ws σ1 σ2) : OnlyS (vs ++ ws) σ σ2 := ⟨a.1.trans b.1, fun i hi => by
  rw [List.mem_append, not_or] at hi
  rw [b.2 i hi.2, a.2 i hi.1]⟩
theorem OnlyS.set (σ : St) (i : Nat) (v : Option V) : OnlyS [i] σ (σ.set i v) := ⟨by simp, fun j hj => by
  rw [List.getElem?_set_ne]
  intro z; subst z; exact hj (by simp)⟩
section
variable {X : Cx} {pos : Pos}
theorem qg_name (i : Nat) {x : Str} (hN : X.N.Nodup) (hi : X.N[i]? = some x := by kernel_rfl) (hx : locB X.env.scope x = true := by kernel_rfl) (hf : (X.fn x || lclB X.env.scope x) = true := by kernel_rfl) : QG X (.Name x pos) [i] (gN i) := by
  constructor
  intro m S σ σ' σv H d v Q rs re r e q
  cases e
  exact wG.of (pg_name hN hi (locB_ok hx) (fnB_ok hf)) (q _ (re.set r i) (OnlyS.set _ _ _))
theorem qgs_nil : QGs X [] [] gNil' := by
  constructor
  intro m S σ σ' σv H ds ws Q rs re r e q
  cases ds with
  | nil =>
    cases e
    simp only [RDs] at r
    exact wGs.of pgs_nil ⟨r, q _ re (.refl _ _)⟩
  | cons d ds => cases e
theorem qgs_cons {e : Expr} {es : List Expr} {vs ws : List Nat} {t : Tg} {u : Tgs} (h1 : QG X e vs t) (h2 : QGs X es ws u)
    (hs : (assignEach (e :: es) X.env).map (·.2) = assign e X.env :: (assignEach es X.env).map (·.2) := by rfl) : QGs X (e :: es) (vs ++ ws) (gCons' t u) := by
  constructor
  intro m S σ σ' σv H ds vv Q rs re r e' q
  cases ds with
  | nil => cases e'
  | cons d ds =>
    simp only [RDs] at r
    obtain ⟨v, r', rfl, rd, rr⟩ := r
    have e2 : (t d σ).bind (u ds) = some σ' := e'
    cases e1 : t d σ with
    | none => rw [e1] at e2; cases e2
    | some σ1 =>
      rw [e1] at e2
      refine wGs.of (pgs_cons (pgw e) (pgsw es) hs) ⟨v, r', rfl, ?_⟩
      refine h1.run m S σ σ1 σv H d v _ rs re rd e1 fun σv1 re1 o1 => ?_
      exact h2.run m S σ1 σ' σv1 H ds r' _ rs re1 rr e2 fun σv2 re2 o2 => q _ re2 (o1.trans o2)
theorem qg_tup {es : List Expr} {k : Nat} {vs : List Nat} {t : Tgs} (hc : X.calm = true) (h : QGs X es vs t) (hl : ∀ ds σ σ', t ds σ = some σ' → ds.length = (assignEach es X.env).length) (hst : (assignEach es X.env).findIdx? (·.1) = none := by rfl) : QG X (.Tuple es k pos) vs (gT t) := by
  constructor
  intro m S σ σ' σv H d v Q rs re r e q
  cases d with
  | tup ds =>
    simp only [RD] at r
    obtain ⟨a, ws, rfl, hq, rr⟩ := r
    refine wG.of (pg_tup hc (pgsw es) rfl hst) ⟨a, ws, rfl, hq, ?_, ?_⟩
    · rw [← rr.length]; exact hl ds σ σ' e
    · exact h.run m S σ σ' σv H ds ws Q rs re rr e q
  | _ => cases e
end
def sUn (t : Tg) (f : Env → M D) : Sm := fun σ => sE (f σ) σ fun d => match t d σ with
  | some σ' => ret (.nx, σ')
  | none => bad
section
variable {X : Cx} {tg e : Expr} {f : Env → M D} {pos : Pos} {vs : List Nat} {t : Tg}
/-- target = value -/
theorem qs_asg (he : QE X e f) (hg : QG X tg vs t) (hs : swapsWithSole [tg] e pos.line X.env = pure false := by rfl) (hw : swappedStores [tg] e X.env = pure none := by kernel_rfl)
    (h1 : (assignEach [tg] X.env).map (·.2) = [assign tg X.env] := by rfl) : QS X (.Assign [tg] e pos) (sUn t f) := ⟨fun W tk m S σ σv H Dn rs re p => by
  refine wS.of (ps_asg (pw e) (pgw tg) hs hw h1) ?_
  refine (he.run W tk m S σ σv H _ rs re (PostS.sE re p)).mono ?_
  rintro v H1 ⟨d, S1, m1, rs1, r1, x1, q1⟩
  cases e' : t d σ with
  | none => rw [e'] at q1; exact q1.elim
  | some σ' =>
    rw [e'] at q1
    exact hg.run m1 S1 σ σ' σv H1 d v _ rs1 (re.mono x1) r1 e' fun σv' re' _ => q1 m1 H1 σv' (.refl _ _) rs1 re'⟩
end
/-- a, b = x, y: plain local names -/
def sPar (i j : Nat) (g : Env → M (List D)) : Sm := fun σ => sE (g σ) σ fun ds => match ds with
  | [a, b] => ret (.nx, (σ.set i (some a)).set j (some b))
  | _ => bad
section
variable {X : Cx} {pos : Pos}
theorem qs_par (i j : Nat) {x y : Str} {a b : Expr} {g : Env → M (List D)} {px py pt : Pos} {kt k2 pt2} (hc : X.calm = true) (hN : X.N.Nodup) (ha : QA X [a, b] g)
    (hi : X.N[i]? = some x := by kernel_rfl) (hj : X.N[j]? = some y := by kernel_rfl) (hij : i ≠ j := by decide)
    (hx : X.env.scope.names.lookup x = some .local := by kernel_rfl) (hy : X.env.scope.names.lookup y = some .local := by kernel_rfl)
    (hw : swappedStores [.Tuple [.Name x px, .Name y py] kt pt] (.Tuple [a, b] k2 pt2) X.env = pure (some [x, y]) := by kernel_rfl)
    (hs : swapsWithSole [.Tuple [.Name x px, .Name y py] kt pt] (.Tuple [a, b] k2 pt2) pos.line X.env = pure false := by rfl) :
    QS X (.Assign [.Tuple [.Name x px, .Name y py] kt pt] (.Tuple [a, b] k2 pt2) pos) (sPar i j g) := ⟨fun W tk m S σ σv H Dn rs re p => by
  refine wS.of (ps_par hc hN hi hj hij hx hy (paw [a, b]) hw hs) ?_
  intro pos' pins' s' I'
  refine thn (ha.run W tk m S σ σv H _ rs re (PostS.sE re p) pos' pins' s' I') ?_
  rintro us s2 ⟨vs, H2, I2, rv, ds, S2, m2, rs2, r2, x2, q2⟩
  refine ⟨vs, H2, I2, rv, ?_⟩
  match ds, r2, q2 with
  | [d1, d2], r2, q2 =>
    simp only [RDs] at r2
    obtain ⟨v, r, rfl, rd, w, r', rfl, rd', rfl⟩ := r2
    exact ⟨v, w, rfl, q2 m2 H2 _ (.refl _ _) rs2 (((re.mono x2).set rd i).set rd' j)⟩
  | [], _, q2 => exact q2.elim
  | [_], _, q2 => exact q2.elim
  | _ :: _ :: _ :: _, _, q2 => exact q2.elim⟩
end
end L2.Z

set_option Elab.async false
set_option linter.all false
set_option maxRecDepth 100000
set_option maxHeartbeats 4000000
/-! ZI: enumerate of a tuple, from a count on. -/
namespace L2.Z
open PySem PySem.Spec PyProof.Rows
variable [HasT]

theorem enumT_meets (l : Addr) (items : Array Value) :
    Meets (Builtin.«enumerate.__new__» ⟨[.type "enumerate", .ref l], []⟩) (fun _ R s => s.heap.IsTuple l items ∧
      R (.ok (.ret (.ref (s.heap.push { cls := .type "tuple_iterator", data := .fields #[.ref l, .int 0 0] }).objs.size)))
        { s with heap := (s.heap.push { cls := .type "tuple_iterator", data := .fields #[.ref l, .int 0 0] }).push { cls := .type "enumerate", data := .fields #[.none, .bool false, .ref s.heap.objs.size, rawInt 0, .none, .none] } }) :=
  .of_wp fun prog w A R s h => by
    obtain ⟨hp, g, d, tk, os⟩ := s; obtain ⟨hL, h⟩ := h
    have hsub := sub_enumerate
    obtain ⟨ob, hl, hcl, hn, hdt⟩ := id hL
    wp_walk using AutoSeq1.wpAny_loadPart' hl
    refine wpAny_stack_any fun st => wpAny_pure ?_
    split
    · rename_i c _ _ _ _ _
      cases (c == Value.type "enumerate")
      · wp_walk using AutoSeq1.wpAny_loadPart' hl, wpAny_pyIter_tuple hL
        exact ⟨_, rfl, h⟩
      · wp_walk using AutoSeq1.wpAny_loadPart' hl, wpAny_pyIter_tuple hL
        exact ⟨_, rfl, h⟩
    · wp_walk using AutoSeq1.wpAny_loadPart' hl, wpAny_pyIter_tuple hL
      exact ⟨_, rfl, h⟩

section
variable {prog : Program} {w : World} {A : Around} {E : Value → Shared → Prop} {s : Shared}
theorem enumT_call {l : Addr} {items : Array Value} {Q : Value → Shared → Prop} (hL : s.heap.IsTuple l items)
    (h : ∀ h', IsEnum h' (s.heap.objs.size + 1) s.heap.objs.size 0 .none → h'.IsTupleIter s.heap.objs.size l 0 →
      (∀ b o, s.heap.get? b = some o → h'.get? b = some o) → Q (.ref (s.heap.objs.size + 1)) { s with heap := h' }) :
    wpAny (model prog w) A (call (.type "enumerate") [.ref l]) Q E s := by
  refine callType_new F.called_enumerate (by decide) (F.typeCall_enumerate_1 _) (F.newCall_enumerate_1 _) (fun obj => F.args_object_init_2 obj _) F.entry_enumerate_new (enumT_meets l items) ⟨hL, ?_⟩
  generalize ho : ({ cls := .type "tuple_iterator", data := .fields #[.ref l, .int 0 0] } : Obj) = o1
  have hz : (s.heap.push o1).objs.size = s.heap.objs.size + 1 := Heap.size_push ..
  show _ ∧ _
  rw [hz]
  have he : IsEnum ((s.heap.push o1).push { cls := .type "enumerate", data := .fields #[.none, .bool false, .ref s.heap.objs.size, rawInt 0, .none, .none] }) (s.heap.objs.size + 1) s.heap.objs.size 0 .none := by
    have q := Heap.get?_push_size (s.heap.push o1) (o := { cls := .type "enumerate", data := .fields #[.none, .bool false, .ref s.heap.objs.size, rawInt 0, .none, .none] }) rfl
    rw [hz] at q; exact q
  refine ⟨⟨_, he, rfl⟩, h _ he ⟨o1, Heap.get?_push_of_some _ (Heap.get?_push_size _ (by rw [← ho]; rfl)), by rw [← ho], by rw [← ho]; rfl⟩ fun b o y => Heap.get?_push_of_some _ (Heap.get?_push_of_some _ y)⟩
end

/-- the tuple at a, each item in a new pair with its number from k on -/
def IteT (K : PySem.W.Frag) (a : Addr) (k : Int) : It :=
  ⟨fun i H => ∃ (xs : List V) (x : V), SqT K H a xs ∧ xs[i]? = some x, fun i H v H' => ∃ T x, v = .ref T ∧ H T = none ∧ H' = upd H T (.tup [.int (k + (i : Nat)), x]) ∧ ∀ xs, SqT K H a xs → xs[i]? = some x, fun i H => ∃ xs : List V, SqT K H a xs ∧ xs.length ≤ i⟩
theorem turn_enumT {P : Program} {w : World} {K : PySem.W.Frag} {elts : List Expr} {kk : Nat} {tpos : Pos} (a e it : Addr) (k : Int) (hea : e ≠ a) (hia : it ≠ a) :
    Turn P w K (.Tuple elts kk tpos) (IteT K a k) [e, it] e (fun i h => (∃ old, IsEnum h e it (k + ((i : Nat) : Int)) old) ∧ h.IsTupleIter it a i ∧ e ≠ it) where
  mem := by simp
  obj := fun i h st b hb => by
    obtain ⟨⟨old, he⟩, ⟨o, ho, _, hd⟩, _⟩ := st
    rcases List.mem_cons.mp hb with z | z
    · rw [z]; exact ⟨_, he, fun v q => nomatch q⟩
    · rw [List.mem_singleton.mp z]; exact ⟨o, ho, fun v q => by rw [hd] at q; cases q⟩
  keep := fun i h h' st kp => by
    obtain ⟨⟨old, he⟩, hi, hne⟩ := st
    exact ⟨⟨old, kp e (by simp) _ he⟩, hi.at fun o q => kp it (by simp) o q, hne⟩
  item := by
    intro X hP hw hK hc i pins s σ H E I hf st hg
    subst hP hw hK
    obtain ⟨⟨old, he⟩, hit, hne⟩ := st
    obtain ⟨xs, x, hq, hx⟩ := hg
    obtain ⟨its, rv, p, _⟩ := I.tuple hq
    obtain ⟨u, hu, ru⟩ := rv.get hx
    have hel : e < s.heap.objs.size := Heap.lt_size he
    have hil : it < s.heap.objs.size := by obtain ⟨_, q, _⟩ := hit; exact Heap.lt_size q
    have hlt : i < its.toArray.size := by
      have := List.getElem?_eq_some_iff.mp hu
      obtain ⟨z, _⟩ := this
      simpa using z
    refine wpAny_pyNext_enum_itemC (Draws.tuple (A := X.A.in1) (I.ok.hd hc) it a (Ne.symm hia) its.toArray) he (i := i) ⟨hit, p⟩ hlt hne (by simp [hne, hea]) fun x' h' tk hP ho hst' hT hsz hk => ?_
    have hx' : x' = u := by
      have z : its.toArray[i]? = some u := by simpa using hu
      rw [z] at hP; exact (Option.some.inj hP).symm
    subst hx'
    refine ⟨_, rfl, wpAny_letOwnedTupleGo_enum (s := { s with heap := h', toks := tk + 1 }) ho fun h'' he' sb => ?_⟩
    have hT2 := (sb.2 _ (Nat.ne_of_gt hel)).trans hT
    have new : ObjOk X.prog X.w (upd H s.heap.objs.size (.tup [.int (k + (i : Nat)), x])) h'' s.heap.objs.size (.tup [.int (k + (i : Nat)), x]) :=
      ⟨by show 2 ≤ sizeLine; decide, [.int (k + (i : Nat)) tk, x'], .cons ⟨_, rfl⟩ (.cons ru .nil), ⟨_, hT2, rfl, _, rfl⟩⟩
    have I1 : Inv X pins σ (upd H s.heap.objs.size (.tup [.int (k + (i : Nat)), x])) { s with heap := h'', toks := tk + 1 } :=
      I.turnedNew (ch := [e, it]) (fun b ob hb q => (sb.2 b (fun z => hb (by simp [z]))).trans (hk b ob (fun z => hb (by simp [z])) (fun z => hb (by simp [z])) q)) hf (Nat.le_refl _) new
    refine ⟨.ref s.heap.objs.size, _, I1, rfl, ⟨_, x, rfl, I.hok.fresh (Nat.le_refl _), rfl, fun ys hy => by rw [I.tuple_inj hy hq]; exact hx⟩, ⟨⟨x', ?_⟩, hst'.1.at fun o q => (sb.2 it (Ne.symm hne)).trans q, hne⟩, fun b hb => ?_⟩
    · rw [show (k + ((i + 1 : Nat) : Int)) = k + (i : Int) + 1 by omega]; exact he'
    · have hb' : b < s.heap.objs.size := by
        rcases List.mem_cons.mp hb with z | z
        · rw [z]; exact hel
        · rw [List.mem_singleton.mp z]; exact hil
      rw [upd_ne (Nat.ne_of_lt hb')]
      exact (hf b hb).1
  done := by
    intro X hP hw hK hc i pins s σ H E I hf st hg
    subst hP hw hK
    obtain ⟨⟨old, he⟩, hit, hne⟩ := st
    obtain ⟨xs, hq, hx⟩ := hg
    obtain ⟨its, rv, p, _⟩ := I.tuple hq
    obtain ⟨f0, f1, f2, f3, f4, f5⟩ := hf it (by simp)
    have hl := rv.length
    have hT : s.TypeIs (.ref e) "enumerate" := ⟨_, he, rfl⟩
    unfold pyNext
    refine wpAny_bind (wpAny_attempt (wpAny_callSpecial?_slot (name := Str.ofString "__next__") hT F.slot_enumerate_next
      (wpAny_call_entry F.slot_enumerate_next hT F.entry_enumerate_next ?_ (F.args_enumerate_next_1 _))))
    show wpAny _ _ (field (.ref e) 2 >>= _) _ _ _
    refine wpAny_bind (wpAny_field he rfl (x := .ref it) rfl ?_)
    refine wpAny_bind (wpAny_nextOf_tuple_end (I.ok.hd hc) hit (show s.heap.IsTuple a its.toArray from p) (by simp; omega) fun h' x he' hx' => ?_)
    obtain ⟨o, ho, hcl⟩ := hx'
    refine wpAny_bind (wpAny_isInstance (T := "StopIteration") (b := true) ⟨o, ho, hcl⟩ isSubtype_stop ?_)
    exact wpAny_pure ⟨rfl, I.turned (t' := s.toks) (fun b o hb q => he' b o hb q) f0 f1 f3 f4 f5⟩
  self := fun A i s Q E st h => by
    obtain ⟨⟨_, he⟩, _⟩ := st
    exact wpAny_pyIter_enum he h
end L2.Z

set_option Elab.async false
set_option linter.all false
set_option maxRecDepth 100000
set_option maxHeartbeats 4000000
/-! Z5: what is walked; for, while, list comprehensions. -/
namespace L2.Z
open PySem PySem.Spec PyProof.Rows
variable [HasT]

inductive Itm where
  | fix (xs : List D) | lst (n : Nat) | enm (n : Nat) | zip (a b : Nat) | rng (lo : Int) (n : Nat)
def lstAt (S : Sto) (n : Nat) : Option (List D) := match S.get n with
  | some (.lst xs) => some xs
  | some (.fz xs) => some xs
  | _ => none
def nxt (it : Itm) (i : Nat) (S : Sto) : Option (Option D) := match it with
  | .fix xs => some xs[i]?
  | .lst n => (lstAt S n).map fun xs => xs[i]?
  | .enm n => (lstAt S n).map fun xs => xs[i]?.map fun x => .tup [.int (i : Nat), x]
  | .zip a b => (lstAt S a).bind fun xs => (lstAt S b).map fun ys => xs[i]?.bind fun x => ys[i]?.map fun y => .tup [x, y]
  | .rng lo n => match Nat.blt i n with
    | true => some (some (.int (lo + (i : Nat))))
    | false => some none
def cnt (it : Itm) (S : Sto) : Nat := match it with
  | .fix xs => xs.length + 1
  | .lst n => ((lstAt S n).getD []).length + 1
  | .enm n => ((lstAt S n).getD []).length + 1
  | .zip a _ => ((lstAt S a).getD []).length + 1
  | .rng _ n => n + 1

structure JIt (K : PySem.W.Frag) (J : It) (it : Itm) (m0 : List Addr) (H0 : Hp) : Prop where
  stop : ∀ m S H i, Ext m0 H0 m H → RS K m S H → nxt it i S = some none → J.stop i H
  go : ∀ m S H i d, Ext m0 H0 m H → RS K m S H → nxt it i S = some (some d) → J.go i H ∧ ∀ x H', J.yld i H x H' → RS K m S H' ∧ Ext m H m H' ∧ RD K m H' d x

theorem RDs.get {K : PySem.W.Frag} {m : List Addr} {H : Hp} : ∀ {ds : List D} {vs : List V} {i : Nat} {d : D}, RDs K m H ds vs → ds[i]? = some d → ∃ v, vs[i]? = some v ∧ RD K m H d v
  | [], _, _, _, _, e => by simp at e
  | d0 :: ds, vs, 0, d, h, e => by
    simp only [RDs] at h
    obtain ⟨v, r, rfl, q, _⟩ := h
    simp at e; subst e
    exact ⟨v, rfl, q⟩
  | d0 :: ds, vs, i + 1, d, h, e => by
    simp only [RDs] at h
    obtain ⟨v, r, rfl, _, t⟩ := h
    obtain ⟨w, e', q⟩ := RDs.get (i := i) t (by simpa using e)
    exact ⟨w, by simpa using e', q⟩
theorem RS.lst {K : PySem.W.Frag} {m : List Addr} {S : Sto} {H : Hp} (rs : RS K m S H) {n : Nat} {a : Addr} {xs : List D} (h : m[n]? = some a) (e : lstAt S n = some xs) : ∃ vs, SqL K H a vs ∧ RDs K m H xs vs := by
  unfold lstAt at e
  cases g : S.get n with
  | none => rw [g] at e; cases e
  | some o =>
    have ro := rs.obj h g
    rw [g] at e
    cases o with
    | lst ys => cases e; obtain ⟨vs, q, t⟩ := ro; exact ⟨vs, SqL.of q, t⟩
    | fz ys => cases e; obtain ⟨ob, vs, q, t⟩ := ro; exact ⟨vs, .inl (.inr ⟨ob, q⟩), t⟩
    | dK _ => cases e
    | dT _ => cases e
    | fd _ => cases e
theorem jit_lst {K : PySem.W.Frag} {m0 : List Addr} {H0 : Hp} {n : Nat} {a : Addr} (h : m0[n]? = some a) : JIt K (Itl K a) (.lst n) m0 H0 where
  stop := fun m S H i x rs e => by
    cases q : lstAt S n with
    | none => simp only [nxt, q] at e; cases e
    | some xs =>
      simp only [nxt, q, Option.map_some, Option.some.injEq] at e
      obtain ⟨vs, hq, t⟩ := rs.lst (pre_get x.pre h) q
      refine ⟨vs, hq, ?_⟩
      rw [← t.length]
      exact List.getElem?_eq_none_iff.mp e
  go := fun m S H i d x rs e => by
    cases q : lstAt S n with
    | none => simp only [nxt, q] at e; cases e
    | some xs =>
      simp only [nxt, q, Option.map_some, Option.some.injEq] at e
      obtain ⟨vs, hq, t⟩ := rs.lst (pre_get x.pre h) q
      obtain ⟨v, ev, rv⟩ := t.get e
      refine ⟨⟨vs, v, hq, ev⟩, fun y H' hy => ?_⟩
      obtain ⟨rfl, z⟩ := hy
      have := z vs hq
      rw [ev] at this
      have e2 : v = y := Option.some.inj this
      subst e2
      exact ⟨rs, .refl _ _, rv⟩
theorem jit_enm {K : PySem.W.Frag} {m0 : List Addr} {H0 : Hp} {n : Nat} {a : Addr} (h : m0[n]? = some a) : JIt K (Ite K a) (.enm n) m0 H0 where
  stop := fun m S H i x rs e => by
    cases q : lstAt S n with
    | none => simp only [nxt, q] at e; cases e
    | some xs =>
      simp only [nxt, q, Option.map_some, Option.some.injEq] at e
      obtain ⟨vs, hq, t⟩ := rs.lst (pre_get x.pre h) q
      refine ⟨vs, hq, ?_⟩
      rw [← t.length]
      cases z : xs[i]? with
      | none => exact List.getElem?_eq_none_iff.mp z
      | some w => rw [z] at e; cases e
  go := fun m S H i d x rs e => by
    cases q : lstAt S n with
    | none => simp only [nxt, q] at e; cases e
    | some xs =>
      simp only [nxt, q, Option.map_some, Option.some.injEq] at e
      obtain ⟨vs, hq, t⟩ := rs.lst (pre_get x.pre h) q
      cases z : xs[i]? with
      | none => rw [z] at e; cases e
      | some w =>
        rw [z] at e
        have ed : D.tup [.int (i : Nat), w] = d := Option.some.inj e
        subst ed
        obtain ⟨v, ev, rv⟩ := t.get z
        refine ⟨⟨vs, v, hq, ev⟩, fun y H' hy => ?_⟩
        obtain ⟨T, y', rfl, hT, rfl, f⟩ := hy
        have := f vs hq
        rw [ev] at this
        have e2 : v = y' := Option.some.inj this
        subst e2
        refine ⟨rs.new hT, .new hT, RD.newTup hT ?_⟩
        simp only [RDs, RD]
        exact ⟨_, _, rfl, rfl, _, _, rfl, rv, rfl⟩
theorem jit_fix {K : PySem.W.Frag} {m0 : List Addr} {H0 : Hp} {a : Addr} {xs : List D} {vs : List V} (h : SqT K H0 a vs) (r : RDs K m0 H0 xs vs) : JIt K (Itt K a) (.fix xs) m0 H0 where
  stop := fun m S H i x rs e => by
    simp only [nxt, Option.some.injEq] at e
    refine ⟨vs, x.le.sqT h, ?_⟩
    rw [← r.length]
    exact List.getElem?_eq_none_iff.mp e
  go := fun m S H i d x rs e => by
    simp only [nxt, Option.some.injEq] at e
    obtain ⟨v, ev, rv⟩ := r.get e
    refine ⟨⟨vs, v, x.le.sqT h, ev⟩, fun y H' hy => ?_⟩
    obtain ⟨rfl, z⟩ := hy
    have := z vs (x.le.sqT h)
    rw [ev] at this
    have e2 : v = y := Option.some.inj this
    subst e2
    exact ⟨rs, .refl _ _, RD.mono x _ _ rv⟩
theorem enumD_get (xs : List D) (k : Int) (i : Nat) : (xs.zipIdx.map fun p => D.tup [.int (k + (p.2 : Nat)), p.1])[i]? = xs[i]?.map fun x => .tup [.int (k + (i : Nat)), x] := by
  rw [List.getElem?_map, List.getElem?_zipIdx]
  cases xs[i]? <;> simp
theorem jit_enmT {K : PySem.W.Frag} {m0 : List Addr} {H0 : Hp} {a : Addr} {k : Int} {xs : List D} {vs : List V} (h : SqT K H0 a vs) (r : RDs K m0 H0 xs vs) : JIt K (IteT K a k) (.fix (xs.zipIdx.map fun p => D.tup [.int (k + (p.2 : Nat)), p.1])) m0 H0 where
  stop := fun m S H i x rs e => by
    simp only [nxt, Option.some.injEq, enumD_get] at e
    refine ⟨vs, x.le.sqT h, ?_⟩
    rw [← r.length]
    cases z : xs[i]? with
    | none => exact List.getElem?_eq_none_iff.mp z
    | some w => rw [z] at e; cases e
  go := fun m S H i d x rs e => by
    simp only [nxt, Option.some.injEq, enumD_get] at e
    cases z : xs[i]? with
    | none => rw [z] at e; cases e
    | some w =>
      rw [z] at e
      have ed : D.tup [.int (k + (i : Nat)), w] = d := Option.some.inj e
      subst ed
      obtain ⟨v, ev, rv⟩ := r.get z
      refine ⟨⟨vs, v, x.le.sqT h, ev⟩, fun y H' hy => ?_⟩
      obtain ⟨T, y', rfl, hT, rfl, f⟩ := hy
      have := f vs (x.le.sqT h)
      rw [ev] at this
      have e2 : v = y' := Option.some.inj this
      subst e2
      refine ⟨rs.new hT, .new hT, RD.newTup hT ?_⟩
      simp only [RDs, RD]
      exact ⟨_, _, rfl, rfl, _, _, rfl, RD.mono x _ _ rv, rfl⟩
theorem zipD_get : ∀ (xs ys : List D) (i : Nat), ((xs.zip ys).map fun p => D.tup [p.1, p.2])[i]? = xs[i]?.bind fun x => ys[i]?.map fun y => .tup [x, y]
  | [], _, _ => by simp
  | x :: xs, [], i => by cases h : (x :: xs)[i]? <;> simp
  | x :: xs, y :: ys, 0 => by simp
  | x :: xs, y :: ys, i + 1 => by simpa using zipD_get xs ys i
theorem jit_zipT {K : PySem.W.Frag} {m0 : List Addr} {H0 : Hp} {a b : Addr} {xs ys : List D} {vs ws : List V} (h : SqT K H0 a vs) (r : RDs K m0 H0 xs vs) (h' : SqT K H0 b ws) (r' : RDs K m0 H0 ys ws) : JIt K (RZ.ItzT K a b) (.fix ((xs.zip ys).map fun p => D.tup [p.1, p.2])) m0 H0 where
  stop := fun m S H i x rs e => by
    simp only [nxt, Option.some.injEq, zipD_get] at e
    refine ⟨vs, ws, x.le.sqT h, x.le.sqT h', ?_⟩
    rw [← r.length, ← r'.length]
    cases z : xs[i]? with
    | none => exact .inl (List.getElem?_eq_none_iff.mp z)
    | some w =>
      cases z' : ys[i]? with
      | none => exact .inr (List.getElem?_eq_none_iff.mp z')
      | some w' => rw [z, z'] at e; cases e
  go := fun m S H i d x rs e => by
    simp only [nxt, Option.some.injEq, zipD_get] at e
    cases z : xs[i]? with
    | none => rw [z] at e; cases e
    | some w =>
      cases z' : ys[i]? with
      | none => rw [z, z'] at e; cases e
      | some w' =>
        rw [z, z'] at e
        have ed : D.tup [w, w'] = d := Option.some.inj e
        subst ed
        obtain ⟨v, ev, rv⟩ := r.get z
        obtain ⟨v', ev', rv'⟩ := r'.get z'
        refine ⟨⟨vs, ws, v, v', x.le.sqT h, x.le.sqT h', ev, ev'⟩, fun y H' hy => ?_⟩
        obtain ⟨T, y1, y2, rfl, hT, rfl, f1, f2⟩ := hy
        have q1 := f1 vs (x.le.sqT h)
        have q2 := f2 ws (x.le.sqT h')
        rw [ev] at q1
        rw [ev'] at q2
        have e1 : v = y1 := Option.some.inj q1
        have e2 : v' = y2 := Option.some.inj q2
        subst e1 e2
        refine ⟨rs.new hT, .new hT, RD.newTup hT ?_⟩
        simp only [RDs]
        exact ⟨_, _, rfl, RD.mono x _ _ rv, _, _, rfl, RD.mono x _ _ rv', rfl⟩
theorem jit_zipL {K : PySem.W.Frag} {m0 : List Addr} {H0 : Hp} {n n' : Nat} {a b : Addr} (h : m0[n]? = some a) (h' : m0[n']? = some b) : JIt K (Itz K a b) (.zip n n') m0 H0 where
  stop := fun m S H i x rs e => by
    cases q : lstAt S n with
    | none => simp only [nxt, q] at e; cases e
    | some xs =>
      cases q' : lstAt S n' with
      | none => simp only [nxt, q, q'] at e; cases e
      | some ys =>
        simp only [nxt, q, q', Option.bind_some, Option.map_some, Option.some.injEq] at e
        obtain ⟨vs, hq, t⟩ := rs.lst (pre_get x.pre h) q
        obtain ⟨ws, hq', t'⟩ := rs.lst (pre_get x.pre h') q'
        refine ⟨vs, ws, hq, hq', ?_⟩
        rw [← t.length, ← t'.length]
        cases z : xs[i]? with
        | none => exact .inl (List.getElem?_eq_none_iff.mp z)
        | some w =>
          cases z' : ys[i]? with
          | none => exact .inr (List.getElem?_eq_none_iff.mp z')
          | some w' => rw [z, z'] at e; cases e
  go := fun m S H i d x rs e => by
    cases q : lstAt S n with
    | none => simp only [nxt, q] at e; cases e
    | some xs =>
      cases q' : lstAt S n' with
      | none => simp only [nxt, q, q'] at e; cases e
      | some ys =>
        simp only [nxt, q, q', Option.bind_some, Option.map_some, Option.some.injEq] at e
        obtain ⟨vs, hq, t⟩ := rs.lst (pre_get x.pre h) q
        obtain ⟨ws, hq', t'⟩ := rs.lst (pre_get x.pre h') q'
        cases z : xs[i]? with
        | none => rw [z] at e; cases e
        | some w =>
          cases z' : ys[i]? with
          | none => rw [z, z'] at e; cases e
          | some w' =>
            rw [z, z'] at e
            have ed : D.tup [w, w'] = d := Option.some.inj e
            subst ed
            obtain ⟨v, ev, rv⟩ := t.get z
            obtain ⟨v', ev', rv'⟩ := t'.get z'
            refine ⟨⟨vs, ws, v, v', hq, hq', ev, ev'⟩, fun y H' hy => ?_⟩
            obtain ⟨T, y1, y2, rfl, hT, rfl, f1, f2⟩ := hy
            have q1 := f1 vs hq
            have q2 := f2 ws hq'
            rw [ev] at q1
            rw [ev'] at q2
            have e1 : v = y1 := Option.some.inj q1
            have e2 : v' = y2 := Option.some.inj q2
            subst e1 e2
            refine ⟨rs.new hT, .new hT, RD.newTup hT ?_⟩
            simp only [RDs]
            exact ⟨_, _, rfl, rv, _, _, rfl, rv', rfl⟩
theorem jit_rng {K : PySem.W.Frag} {m0 : List Addr} {H0 : Hp} {lo : Int} {n : Nat} : JIt K (Itr lo n) (.rng lo n) m0 H0 where
  stop := fun m S H i x rs e => by
    by_cases h : i < n
    · simp only [nxt, blt_t h] at e; cases e
    · show n ≤ i
      omega
  go := fun m S H i d x rs e => by
    by_cases h : i < n
    · simp only [nxt, blt_t h, Option.some.injEq] at e
      subst e
      refine ⟨h, fun y H' hy => ?_⟩
      obtain ⟨rfl, rfl⟩ := hy
      exact ⟨rs, .refl _ _, by simp only [RD]⟩
    · simp only [nxt, blt_f h] at e; cases e

/-! ### sources -/
def wI (X : Cx) (tg iter : Expr) (σ : St) (H : Hp) (R : It → Hp → Prop) : Prop := ∀ pins s, Inv X pins σ H s → wpAny (model X.prog X.w) X.A (eval iter X.env) (fun v s1 => wpAny (model X.prog X.w) X.A (pyIter v) (PIE X pins σ tg R) X.xe s1) X.xe s
theorem piw {X : Cx} (tg iter : Expr) : PI X tg iter (wI X tg iter) := ⟨fun pins s σ H R I h => h pins s I⟩
theorem wI.of {X : Cx} {tg iter : Expr} {t : TI} (h : PI X tg iter t) {σ : St} {H : Hp} {R : It → Hp → Prop} (q : t σ H R) : wI X tg iter σ H R := fun pins s I => h.run pins s σ H R I q
abbrev GI (K : PySem.W.Frag) (m : List Addr) (H : Hp) (P : Itm → Sto → List Addr → Hp → Prop) : It → Hp → Prop := fun J H' => ∃ it S' m', RS K m' S' H' ∧ JIt K J it m' H' ∧ Ext m H m' H' ∧ P it S' m' H'
structure QI (X : Cx) (tg iter : Expr) (f : Env → M Itm) : Prop where
  run : ∀ (W : WX), Takes X W → ∀ (m : List Addr) (S : Sto) (σ : Env) (σv : St) (H : Hp) (P : Itm → Sto → List Addr → Hp → Prop), RS X.K m S H → RE X.K m H σ σv →
  PostG X.K X.mg m H (f σ S) P (fun c d H' => W c d σv H') → wI X tg iter σv H (GI X.K m H P)
def upI (o : Sto → Option Itm) : M Itm := fun S => match o S with
  | some it => .ok it S
  | none => .bad
theorem PostG.upI {K : PySem.W.Frag} {mg : Str → Option Value} {m : List Addr} {H : Hp} {E : XK} {o : Sto → Option Itm} {S : Sto} {P : Itm → Sto → List Addr → Hp → Prop} (h : PostG K mg m H (Z.upI o S) P E) (rs : RS K m S H) : ∃ it, o S = some it ∧ P it S m H := by
  unfold Z.upI at h
  cases e : o S with
  | none => rw [e] at h; exact h.elim
  | some it => rw [e] at h; exact ⟨it, rfl, h m H (.refl _ _) rs⟩
/-- a tuple, a list -/
def itOf (d : D) (S : Sto) : Option Itm := match d with
  | .tup xs => some (.fix xs)
  | .loc n => (lstAt S n).map fun _ => .lst n
  | _ => none
def iSeq (f : Env → M D) : Env → M Itm := fun σ => bnd (f σ) fun d => upI (itOf d)
@[irreducible] def itRng1 (ds : List D) (S : Sto) : Option Itm := match ds with
  | [.int j] => if -(2 ^ 62) ≤ j ∧ j < 2 ^ 62 then some (.rng 0 j.toNat) else none
  | _ => none
@[irreducible] def itRng2 (ds : List D) (S : Sto) : Option Itm := match ds with
  | [.int i, .int j] => if -(2 ^ 62) ≤ i ∧ i < 2 ^ 62 ∧ -(2 ^ 62) ≤ j ∧ j < 2 ^ 62 then some (.rng i (j - i).toNat) else none
  | _ => none
def iRng1' (g : Env → M (List D)) : Env → M Itm := fun σ => bnd (g σ) fun ds => upI (itRng1 ds)
def iRng2' (g : Env → M (List D)) : Env → M Itm := fun σ => bnd (g σ) fun ds => upI (itRng2 ds)
def itEnm (ds : List D) (S : Sto) : Option Itm := match ds with
  | [.tup xs] => some (.fix (xs.zipIdx.map fun p => D.tup [.int (0 + (p.2 : Nat)), p.1]))
  | [.loc n] => (lstAt S n).map fun _ => .enm n
  | _ => none
def iEnm (g : Env → M (List D)) : Env → M Itm := fun σ => bnd (g σ) fun ds => upI (itEnm ds)
def itEnmK (ds : List D) (S : Sto) : Option Itm := match ds with
  | [.tup xs, .int k] => if -(2 ^ 63) ≤ k ∧ k < 2 ^ 63 then some (.fix (xs.zipIdx.map fun p => D.tup [.int (k + (p.2 : Nat)), p.1])) else none
  | _ => none
def iEnmK (g : Env → M (List D)) : Env → M Itm := fun σ => bnd (g σ) fun ds => upI (itEnmK ds)
def itZip (ds : List D) (S : Sto) : Option Itm := match ds with
  | [.tup xs, .tup ys] => some (.fix ((xs.zip ys).map fun p => D.tup [p.1, p.2]))
  | [.loc a, .loc b] => (lstAt S a).bind fun _ => (lstAt S b).map fun _ => .zip a b
  | _ => none
def iZp (g : Env → M (List D)) : Env → M Itm := fun σ => bnd (g σ) fun ds => upI (itZip ds)
section
variable {X : Cx} {tg e : Expr} {es : List Expr} {f : Env → M D} {g : Env → M (List D)} {p pos : Pos}
theorem qi_seq (he : QE X e f) : QI X tg e (iSeq f) := ⟨fun W tk m S σ σv H P rs re q => by
  intro pins s I
  refine thn (he.run W tk m S σ σv H _ rs re q.bnd pins s I) ?_
  rintro v s1 ⟨x, H1, I1, r1, d, S1, m1, rs1, rd, x1, q1⟩
  obtain ⟨it, e1, q2⟩ := q1.upI rs1
  cases d with
  | tup xs =>
    cases e1
    simp only [RD] at rd
    obtain ⟨a, vs, rfl, hq, rr⟩ := rd
    cases r1
    obtain ⟨its, rv, pt, hz⟩ := I1.tuple hq
    refine wpAny_pyIter_tuple (show s1.heap.IsTuple a its.toArray from pt) ?_
    have hle := Nat.le_refl s1.heap.objs.size
    refine ⟨s1.heap.objs.size, [s1.heap.objs.size], _, _, H1, rfl, I1.kept (t' := s1.toks) fun b o e => Heap.get?_push_of_some _ e, turn_tuple a _, ⟨_, Heap.get?_push_size _ rfl, rfl, rfl⟩, fun b hb => ?_, .fix xs, S1, m1, rs1, jit_fix hq rr, x1, q2⟩
    rw [List.mem_singleton.mp hb]
    exact I1.fpOk hle (I1.hok.fresh hle)
  | loc n =>
    cases qn : lstAt S1 n with
    | none => simp only [itOf, qn] at e1; cases e1
    | some ys =>
      simp only [itOf, qn, Option.map_some, Option.some.injEq] at e1
      subst e1
      simp only [RD] at rd
      obtain ⟨a, rfl, hm⟩ := rd
      cases r1
      obtain ⟨vs, hq, t⟩ := rs1.lst hm qn
      obtain ⟨its, rv, pt, hz⟩ := I1.list hq
      refine wpAny_pyIter_list pt.isList ?_
      have hle := Nat.le_refl s1.heap.objs.size
      refine ⟨s1.heap.objs.size, [s1.heap.objs.size], _, _, H1, rfl, I1.kept (t' := s1.toks) fun b o e => Heap.get?_push_of_some _ e, turn_list a _, ⟨_, Heap.get?_push_size _ rfl, rfl, rfl⟩, fun b hb => ?_, .lst n, S1, m1, rs1, jit_lst hm, x1, q2⟩
      rw [List.mem_singleton.mp hb]
      exact I1.fpOk hle (I1.hok.fresh hle)
  | _ => cases e1⟩
theorem qi_rng1 {a : Expr} (hm : X.mg "range" = none) (ha : QA X [a] g) (hg : glB X.env.scope "range" = true := by kernel_rfl) (hs : PySem.W.isStarred a = false := by rfl) : QI X tg (.Call (.Name "range" p) [a] [] pos) (iRng1' g) := ⟨fun W tk m S σ σv H P rs re q => by
  refine wI.of (pi_range1 (glB_ok hg).1 hm (paw [a]) (star1 hs)) ?_
  intro pos' pins' s' I'
  refine thn (ha.run W tk m S σ σv H _ rs re q.bnd pos' pins' s' I') ?_
  rintro us s2 ⟨vs, H2, I2, rv, ds, S2, m2, rs2, r2, x2, q2⟩
  obtain ⟨it, e1, q3⟩ := q2.upI rs2
  refine ⟨vs, H2, I2, rv, ?_⟩
  unfold itRng1 at e1
  split at e1
  · split at e1
    · rename_i hb
      cases e1
      simp only [RDs, RD] at r2
      obtain ⟨v, r, rfl, rfl, rfl⟩ := r2
      exact ⟨_, rfl, hb.1, hb.2, _, S2, m2, rs2, jit_rng, x2, q3⟩
    · cases e1
  · cases e1⟩
theorem qi_rng2 {a b : Expr} (hm : X.mg "range" = none) (ha : QA X [a, b] g) (hg : glB X.env.scope "range" = true := by kernel_rfl) (hs : PySem.W.isStarred a = false := by rfl) (hs2 : PySem.W.isStarred b = false := by rfl) : QI X tg (.Call (.Name "range" p) [a, b] [] pos) (iRng2' g) := ⟨fun W tk m S σ σv H P rs re q => by
  refine wI.of (pi_range2 (glB_ok hg).1 hm (paw [a, b]) (by rw [star1 hs, star1 hs2]; rfl) (star1 hs2)) ?_
  intro pos' pins' s' I'
  refine thn (ha.run W tk m S σ σv H _ rs re q.bnd pos' pins' s' I') ?_
  rintro us s2 ⟨vs, H2, I2, rv, ds, S2, m2, rs2, r2, x2, q2⟩
  obtain ⟨it, e1, q3⟩ := q2.upI rs2
  refine ⟨vs, H2, I2, rv, ?_⟩
  unfold itRng2 at e1
  split at e1
  · split at e1
    · rename_i hb
      cases e1
      simp only [RDs, RD] at r2
      obtain ⟨v, r, rfl, rfl, v', r', rfl, rfl, rfl⟩ := r2
      exact ⟨_, _, rfl, hb, _, S2, m2, rs2, jit_rng, x2, q3⟩
    · cases e1
  · cases e1⟩
theorem qi_enm {a : Expr} {elts : List Expr} {kk : Nat} {tpos : Pos} (hm : X.mg "enumerate" = none) (ha : QA X [a] g) (hg : glB X.env.scope "enumerate" = true := by kernel_rfl) (hs : PySem.W.isStarred a = false := by rfl) : QI X (.Tuple elts kk tpos) (.Call (.Name "enumerate" p) [a] [] pos) (iEnm g) := ⟨fun W tk m S σ σv H P rs re q => by
  intro pins s I
  refine Call_ (ld_blt I (glB_ok hg).1 hm boot_enumerate (PyProof.Rows.callWith_type1 ?_ (star1 hs) rfl))
  refine thn (ha.run W tk m S σ σv H _ rs re q.bnd pos pins s I) ?_
  rintro us s1 ⟨vs, H1, I1, rv, ds, S1, m1, rs1, r1, x1, q1⟩
  obtain ⟨it, e1, q3⟩ := q1.upI rs1
  unfold itEnm at e1
  split at e1
  · rename_i xs
    cases e1
    simp only [RDs, RD] at r1
    obtain ⟨v, r, rfl, ⟨a', ws, rfl, hq, rr⟩, rfl⟩ := r1
    obtain ⟨u, rfl, ru⟩ := Vals.one rv
    cases ru
    obtain ⟨its, rvv, pt, hz⟩ := I1.tuple hq
    have la : a' < s1.heap.objs.size := by obtain ⟨o, ho, _⟩ := id pt; exact Heap.lt_size ho
    refine enumT_call (show s1.heap.IsTuple a' its.toArray from pt) fun h' he hit hk => wpAny_pyIter_enum he ?_
    have I2 : Inv X pins σv H1 { s1 with heap := h' } := I1.kept (t' := s1.toks) hk
    refine ⟨s1.heap.objs.size + 1, [s1.heap.objs.size + 1, s1.heap.objs.size], _, _, H1, rfl, I2, turn_enumT a' (s1.heap.objs.size + 1) s1.heap.objs.size 0 (Nat.ne_of_gt (Nat.lt_succ_of_lt la)) (Nat.ne_of_gt la), ⟨⟨.none, he⟩, hit, Nat.succ_ne_self _⟩, fun b hb => ?_, _, S1, m1, rs1, jit_enmT hq rr, x1, q3⟩
    have hle : s1.heap.objs.size ≤ b := by
      rcases List.mem_cons.mp hb with z | z
      · rw [z]; exact Nat.le_succ _
      · rw [List.mem_singleton.mp z]; exact Nat.le_refl _
    exact I1.fpOk hle (I1.hok.fresh hle)
  · rename_i n
    cases qn : lstAt S1 n with
    | none => rw [qn] at e1; cases e1
    | some ys =>
      rw [qn] at e1
      cases e1
      simp only [RDs, RD] at r1
      obtain ⟨v, r, rfl, ⟨a', rfl, hm'⟩, rfl⟩ := r1
      obtain ⟨u, rfl, ru⟩ := Vals.one rv
      cases ru
      obtain ⟨ws, hq, t⟩ := rs1.lst hm' qn
      obtain ⟨its, rvv, pt, hz⟩ := I1.list hq
      refine call_enumerate_list pt.isList fun h' he hit hsz hk => wpAny_pyIter_enum he ?_
      have I2 : Inv X pins σv H1 { s1 with heap := h' } := I1.kept (t' := s1.toks) hk
      refine ⟨s1.heap.objs.size + 1, [s1.heap.objs.size + 1, s1.heap.objs.size], _, _, H1, rfl, I2, turn_enum a' (s1.heap.objs.size + 1) s1.heap.objs.size, ⟨⟨.none, he⟩, hit, Nat.succ_ne_self _⟩, fun b hb => ?_, _, S1, m1, rs1, jit_enm hm', x1, q3⟩
      have hle : s1.heap.objs.size ≤ b := by
        rcases List.mem_cons.mp hb with z | z
        · rw [z]; exact Nat.le_succ _
        · rw [List.mem_singleton.mp z]; exact Nat.le_refl _
      exact I1.fpOk hle (I1.hok.fresh hle)
  · cases e1⟩
theorem qi_enmK {a b : Expr} {elts : List Expr} {kk : Nat} {tpos : Pos} (hm : X.mg "enumerate" = none) (ha : QA X [a, b] g) (hg : glB X.env.scope "enumerate" = true := by kernel_rfl) (hs : PySem.W.isStarred a = false := by rfl) (hpl : [b].any PySem.W.isStarred = false := by rfl) : QI X (.Tuple elts kk tpos) (.Call (.Name "enumerate" p) [a, b] [] pos) (iEnmK g) := ⟨fun W tk m S σ σv H P rs re q => by
  intro pins s I
  refine Call_ (ld_blt I (glB_ok hg).1 hm boot_enumerate (PyProof.Rows.callWith_type1 ?_ (star1 hs) (star2 hpl)))
  refine thn (ha.run W tk m S σ σv H _ rs re q.bnd pos pins s I) ?_
  rintro us s1 ⟨vs, H1, I1, rv, ds, S1, m1, rs1, r1, x1, q1⟩
  obtain ⟨it, e1, q3⟩ := q1.upI rs1
  unfold itEnmK at e1
  split at e1
  · rename_i xs k
    split at e1
    · rename_i hb
      cases e1
      simp only [RDs, RD] at r1
      obtain ⟨v, r, rfl, ⟨a', ws, rfl, hq, rr⟩, v', r', rfl, rfl, rfl⟩ := r1
      obtain ⟨u, u', rfl, ru, ru'⟩ := Vals.two rv
      cases ru
      obtain ⟨tt, rfl⟩ := ru'
      obtain ⟨its, rvv, pt, hz⟩ := I1.tuple hq
      have la : a' < s1.heap.objs.size := by obtain ⟨o, ho, _⟩ := id pt; exact Heap.lt_size ho
      refine enum_begins (begins_tuple a' its.toArray) (show s1.heap.IsTuple a' its.toArray from pt) hb.1 hb.2 fun h' he hit hsz hk => wpAny_pyIter_enum he ?_
      have I2 : Inv X pins σv H1 { s1 with heap := h' } := I1.kept (t' := s1.toks) hk
      refine ⟨s1.heap.objs.size + 1, [s1.heap.objs.size + 1, s1.heap.objs.size], _, _, H1, rfl, I2, turn_enumT a' (s1.heap.objs.size + 1) s1.heap.objs.size k (Nat.ne_of_gt (Nat.lt_succ_of_lt la)) (Nat.ne_of_gt la), ⟨⟨.none, by simpa using he⟩, ⟨_, hit, rfl, rfl⟩, Nat.succ_ne_self _⟩, fun b hb => ?_, _, S1, m1, rs1, jit_enmT hq rr, x1, q3⟩
      have hle : s1.heap.objs.size ≤ b := by
        rcases List.mem_cons.mp hb with z | z
        · rw [z]; exact Nat.le_succ _
        · rw [List.mem_singleton.mp z]; exact Nat.le_refl _
      exact I1.fpOk hle (I1.hok.fresh hle)
    · cases e1
  · cases e1⟩
theorem qi_zip {a b : Expr} {elts : List Expr} {kk : Nat} {tpos : Pos} (hm : X.mg "zip" = none) (ha : QA X [a, b] g) (hg : glB X.env.scope "zip" = true := by kernel_rfl) (hs : PySem.W.isStarred a = false := by rfl) (hpl : [b].any PySem.W.isStarred = false := by rfl) : QI X (.Tuple elts kk tpos) (.Call (.Name "zip" p) [a, b] [] pos) (iZp g) := ⟨fun W tk m S σ σv H P rs re q => by
  refine wI.of (RZ.pi_zipA (glB_ok hg).1 hm (paw [a, b]) (star1 hs) (star2 hpl)) ?_
  intro pos' pins' s' I'
  refine thn (ha.run W tk m S σ σv H _ rs re q.bnd pos' pins' s' I') ?_
  rintro us s2 ⟨vs, H2, I2, rv, ds, S2, m2, rs2, r2, x2, q2⟩
  obtain ⟨it, e1, q3⟩ := q2.upI rs2
  refine ⟨vs, H2, I2, rv, ?_⟩
  unfold itZip at e1
  split at e1
  · cases e1
    simp only [RDs, RD] at r2
    obtain ⟨v, r, rfl, ⟨a', ws, rfl, hq, rr⟩, v', r', rfl, ⟨b', ws', rfl, hq', rr'⟩, rfl⟩ := r2
    exact ⟨a', b', ws, ws', rfl, .inr ⟨hq, hq', _, S2, m2, rs2, jit_zipT hq rr hq' rr', x2, q3⟩⟩
  · rename_i n n'
    cases qn : lstAt S2 n with
    | none => rw [qn] at e1; cases e1
    | some ys =>
      cases qn' : lstAt S2 n' with
      | none => rw [qn, qn'] at e1; cases e1
      | some ys' =>
        rw [qn, qn'] at e1
        cases e1
        simp only [RDs, RD] at r2
        obtain ⟨v, r, rfl, ⟨a', rfl, hm1⟩, v', r', rfl, ⟨b', rfl, hm2⟩, rfl⟩ := r2
        obtain ⟨ws, hq, t⟩ := rs2.lst hm1 qn
        obtain ⟨ws', hq', t'⟩ := rs2.lst hm2 qn'
        exact ⟨a', b', ws, ws', rfl, .inl ⟨hq, hq', _, S2, m2, rs2, jit_zipL hm1 hm2, x2, q3⟩⟩
  · cases e1⟩
end
end L2.Z

set_option Elab.async false
set_option linter.all false
set_option maxRecDepth 100000
set_option maxHeartbeats 4000000
/-! Z6: for, while, list comprehensions. -/
namespace L2.Z
open PySem PySem.Spec PyProof.Rows
variable [HasT]

def forL (it : Itm) (t : Tg) (b : Sm) : Nat → Nat → Env → M (Fl × Env)
  | 0, _, _ => bad
  | n + 1, i, σ => fun S => match nxt it i S with
    | none => .bad
    | some none => .ok (.nx, σ) S
    | some (some d) => match t d σ with
      | none => .bad
      | some σ1 => match b σ1 S with
        | .ok (.nx, σ2) S2 => forL it t b n (i + 1) σ2 S2
        | .ok (.ct, σ2) S2 => forL it t b n (i + 1) σ2 S2
        | .ok (.bk, σ2) S2 => .ok (.nx, σ2) S2
        | r => r
def sFor (src : Env → M Itm) (t : Tg) (b : Sm) : Sm := fun σ => sE (src σ) σ fun it S => forL it t b (cnt it S) 0 σ S
theorem wI.mono {X : Cx} {tg iter : Expr} {σ : St} {H : Hp} {R R' : It → Hp → Prop} (h : wI X tg iter σ H R) (q : ∀ J H', R J H' → R' J H') : wI X tg iter σ H R' := fun pins s I =>
  thn (h pins s I) fun v s1 h1 => thn h1 fun itv s2 ⟨it, fp, tn, J, H', e, I', T, st, f, r⟩ => ⟨it, fp, tn, J, H', e, I', T, st, f, q _ _ r⟩
section
variable {X : Cx} {tg iter : Expr} {body : List Stmt} {src : Env → M Itm} {vs : List Nat} {t : Tg} {b : Sm} {pos : Pos}
theorem qs_for (hp : PassesOwn (model X.prog X.w) X.A X.env X.xe) (hc : X.calm = true) (hi : QI X tg iter src) (hg : QG X tg vs t) (hb : QSs X body b)
    (hs : ∀ x, foldedSetIterable iter X.env x = pure x := by intro _; rfl) : QS X (.For tg iter body [] pos) (sFor src t b) := ⟨fun W tk m S σ σv H Dn rs re p => by
  refine wS.of (ps_for hp hc (piw tg iter) (pgw tg) (pssw body) hs) ?_
  refine (hi.run W tk m S σ σv H _ rs re (PostS.sE re p)).mono ?_
  rintro J H1 ⟨it, S1, m1, rs1, ji, x1, q1⟩
  refine ⟨fun i n σ' H' => ∃ m S σz, RS X.K m S H' ∧ RE X.K m H' σz σ' ∧ Ext m1 H1 m H' ∧ PostS X.K X.mg m H' (forL it t b n i σz S) Dn W, ⟨_, m1, S1, σ, rs1, re.mono x1, .refl _ _, q1⟩, ?_⟩
  rintro i n σ' H' ⟨m2, S2, σ2, rs2, re2, x2, q2⟩
  cases n with
  | zero => exact q2.elim
  | succ n =>
    unfold forL at q2
    cases en : nxt it i S2 with
    | none => rw [en] at q2; exact q2.elim
    | some o =>
      rw [en] at q2
      cases o with
      | none => exact .inl ⟨ji.stop m2 S2 H' i x2 rs2 en, q2 m2 H' σ' (.refl _ _) rs2 re2⟩
      | some d =>
        obtain ⟨g1, g2⟩ := ji.go m2 S2 H' i d x2 rs2 en
        refine .inr ⟨g1, fun σ'' H'' => ∃ m S σz, RS X.K m S H'' ∧ RE X.K m H'' σz σ'' ∧ Ext m1 H1 m H'' ∧ PostS X.K X.mg m H'' (forL it t b n (i + 1) σz S) Dn W, fun σ'' H'' h => ⟨n, Nat.lt_succ_self _, h⟩, fun x H3 hy => ?_⟩
        obtain ⟨rs3, x3, rd3⟩ := g2 x H3 hy
        cases et : t d σ2 with
        | none => simp only [et] at q2; exact q2.elim
        | some σ3 =>
          simp only [et] at q2
          refine hg.run m2 S2 σ2 σ3 σ' H3 d x _ rs3 (re2.mono x3) rd3 et fun σv3 re3 _ => ?_
          refine hb.run W tk m2 S2 σ3 σv3 H3 _ rs3 re3 ?_
          have q3 := PostS.ext q2 x3
          cases eb : b σ3 S2 with
          | bad => simp only [eb] at q3; exact q3
          | exc y S4 => simp only [eb] at q3; exact q3
          | ok y S4 =>
            obtain ⟨fl, σ4⟩ := y
            cases fl with
            | nx => simp only [eb] at q3; exact fun m' H'' σv' x' rs' re' => ⟨m', S4, σ4, rs', re', (x2.trans x3).trans x', PostS.ext q3 x'⟩
            | ct => simp only [eb] at q3; exact fun m' H'' σv' x' rs' re' => ⟨m', S4, σ4, rs', re', (x2.trans x3).trans x', PostS.ext q3 x'⟩
            | bk => simp only [eb] at q3; exact q3
            | rt d => simp only [eb] at q3; exact q3
            | xc d => simp only [eb] at q3; exact q3⟩
end

def whL (t : Env → M Bool) (b : Sm) : Nat → Env → M (Fl × Env)
  | 0, _ => bad
  | n + 1, σ => sE (t σ) σ fun c => match c with
    | false => ret (.nx, σ)
    | true => fun S => match b σ S with
      | .ok (.nx, σ2) S2 => whL t b n σ2 S2
      | .ok (.ct, σ2) S2 => whL t b n σ2 S2
      | .ok (.bk, σ2) S2 => .ok (.nx, σ2) S2
      | r => r
def sWhile (n : Nat) (t : Env → M Bool) (b : Sm) : Sm := fun σ => whL t b n σ
section
variable {X : Cx} {c : Expr} {body : List Stmt} {t : Env → M Bool} {b : Sm} {pos : Pos}
theorem qs_while (n : Nat) (hp : PassesOwn (model X.prog X.w) X.A X.env X.xe) (hc : QT X c t) (hb : QSs X body b) : QS X (.While c body [] pos) (sWhile n t b) := ⟨fun W tk m S σ σv H Dn rs re p => by
  refine wS.of (ps_while hp (ptw c) (pssw body)) ?_
  refine ⟨fun n σ' H' => ∃ m S σz, RS X.K m S H' ∧ RE X.K m H' σz σ' ∧ PostS X.K X.mg m H' (whL t b n σz S) Dn W, ⟨n, m, S, σ, rs, re, p⟩, ?_⟩
  rintro n σ' H' ⟨m2, S2, σ2, rs2, re2, q2⟩
  cases n with
  | zero => exact q2.elim
  | succ n =>
    unfold whL at q2
    refine (hc.run W tk m2 S2 σ2 σ' H' _ rs2 re2 (PostS.sE re2 q2)).mono ?_
    rintro k H3 ⟨S3, m3, rs3, x3, q3⟩
    cases k with
    | false => exact iteF (q3 m3 H3 σ' (.refl _ _) rs3 (re2.mono x3))
    | true =>
      refine iteT ⟨fun σ'' H'' => ∃ m S σz, RS X.K m S H'' ∧ RE X.K m H'' σz σ'' ∧ PostS X.K X.mg m H'' (whL t b n σz S) Dn W, fun σ'' H'' h => ⟨n, Nat.lt_succ_self _, h⟩, ?_⟩
      refine hb.run W tk m3 S3 σ2 σ' H3 _ rs3 (re2.mono x3) ?_
      cases eb : b σ2 S3 with
      | bad => simp only [eb] at q3; exact q3
      | exc y S4 => simp only [eb] at q3; exact q3
      | ok y S4 =>
        obtain ⟨fl, σ4⟩ := y
        cases fl with
        | nx => simp only [eb] at q3; exact fun m' H'' σv' x' rs' re' => ⟨m', S4, σ4, rs', re', PostS.ext q3 x'⟩
        | ct => simp only [eb] at q3; exact fun m' H'' σv' x' rs' re' => ⟨m', S4, σ4, rs', re', PostS.ext q3 x'⟩
        | bk => simp only [eb] at q3; exact q3
        | rt d => simp only [eb] at q3; exact q3
        | xc d => simp only [eb] at q3; exact q3⟩
end

/-! ### list comprehensions -/
def wipeE (σ : Env) : List Nat → Env
  | [] => σ
  | v :: vs => (wipeE σ vs).set v none
theorem RE.unset {K : PySem.W.Frag} {m : List Addr} {H : Hp} {σ : Env} {σv : St} (r : RE K m H σ σv) (i : Nat) : RE K m H (σ.set i none) (σv.set i none) :=
  ⟨by simp [r.len], fun j e h => by
    by_cases hj : i = j
    · subst hj
      by_cases hl : i < σ.length
      · rw [List.getElem?_set_self hl] at h; cases h
      · rw [List.getElem?_eq_none (by simpa using hl)] at h; cases h
    · rw [List.getElem?_set_ne hj] at h
      rw [List.getElem?_set_ne hj]
      exact r.at_ j e h⟩
theorem RE.wipe {K : PySem.W.Frag} {m : List Addr} {H : Hp} {σ : Env} {σv : St} (r : RE K m H σ σv) : ∀ vs : List Nat, RE K m H (wipeE σ vs) (L2.wipe σv vs)
  | [] => r
  | v :: vs => (r.wipe vs).unset v
theorem wipe_get (σ : St) : ∀ (vs : List Nat) (i : Nat), (L2.wipe σ vs)[i]? = if i ∈ vs then (if i < σ.length then some none else none) else σ[i]?
  | [], i => by simp [L2.wipe]
  | v :: vs, i => by
    unfold L2.wipe
    by_cases h : v = i
    · subst h
      by_cases hl : v < σ.length
      · rw [List.getElem?_set_self (by rw [wipe_length]; exact hl)]; simp [hl]
      · rw [List.getElem?_eq_none (by simp [wipe_length]; omega)]; simp [hl]
    · rw [List.getElem?_set_ne h, wipe_get σ vs i]
      by_cases h2 : i ∈ vs
      · simp [h2]
      · simp [h2, Ne.symm h]
theorem OnlyS.wipe {vs ws : List Nat} {σ σ' : St} (o : OnlyS ws (L2.wipe σ vs) σ') (h : ∀ i ∈ ws, i ∈ vs) : L2.wipe σ' vs = L2.wipe σ vs := by
  apply List.ext_getElem?
  intro i
  have hl : σ'.length = σ.length := by rw [← o.1, wipe_length]
  rw [wipe_get, wipe_get, hl]
  by_cases hi : i ∈ vs
  · simp [hi]
  · simp only [hi, if_false]
    rw [o.2 i (fun z => hi (h i z)), wipe_get]
    simp [hi]

theorem RDs.snoc {K : PySem.W.Frag} {m : List Addr} {H : Hp} : ∀ {ds : List D} {vs : List V} {d : D} {v : V}, RDs K m H ds vs → RD K m H d v → RDs K m H (ds ++ [d]) (vs ++ [v])
  | [], vs, d, v, h, q => by simp only [RDs] at h; subst h; simp only [List.nil_append, RDs]; exact ⟨v, [], rfl, q, rfl⟩
  | d0 :: ds, vs, d, v, h, q => by
    simp only [RDs] at h
    obtain ⟨v0, r, rfl, q0, t⟩ := h
    simp only [List.cons_append, RDs]
    exact ⟨v0, r ++ [v], rfl, q0, RDs.snoc t q⟩
def lcL (it : Itm) (t : Tg) (tt : Env → M Bool) (f : Env → M D) (n : Nat) (σ : Env) : Nat → Nat → M Unit
  | 0, _ => bad
  | k + 1, i => fun S => match nxt it i S with
    | none => .bad
    | some none => .ok () S
    | some (some d) => match t d σ with
      | none => .bad
      | some σ1 => match tt σ1 S with
        | .ok false S1 => lcL it t tt f n σ k (i + 1) S1
        | .ok true S1 => match f σ1 S1 with
          | .ok y S2 => match S2.get n with
            | some (.lst acc) => match Nat.blt acc.length sizeLine with
              | true => lcL it t tt f n σ k (i + 1) (S2.set n (.lst (acc ++ [y])))
              | false => .bad
            | _ => .bad
          | _ => .bad
        | _ => .bad
def eLc (vs : List Nat) (src : Env → M Itm) (t : Tg) (tt : Env → M Bool) (f : Env → M D) : Env → M D := fun σ => bnd (src σ) fun it S => match lcL it t tt f S.n (wipeE σ vs) (cnt it S) 0 (S.push (.lst [])) with
  | .ok _ S' => .ok (.loc S.n) S'
  | _ => .bad
def tYesM : Env → M Bool := fun _ => ret true
/-- a clause's tests -/
structure QTs (X : Cx) (ifs : List Expr) (f : Env → M Bool) : Prop where
  run : ∀ (W : WX), Takes X W → ∀ (m : List Addr) (S : Sto) (σ : Env) (σv : St) (H : Hp) (P : Bool → Sto → List Addr → Hp → Prop), RS X.K m S H → RE X.K m H σ σv →
  PostG X.K X.mg m H (f σ S) P (fun c d H' => W c d σv H') → ∀ pins s, Inv X pins σv H s → wpAny (model X.prog X.w) X.A (forIn ifs true fun c r => if r = true then do let ok ← isTrue c X.env (eval c X.env); pure (ForInStep.yield ok) else pure (ForInStep.yield r)) (TP X pins σv (GB X.K m H P)) X.xe s
section
variable {X : Cx}
theorem qts_nil : QTs X [] tYesM := ⟨fun W tk m S σ σv H P rs re p pins s I => pts_nil.run pins s σv H _ I ⟨S, m, rs, .refl _ _, p m H (.refl _ _) rs⟩⟩
theorem qts_one {c : Expr} {t : Env → M Bool} (h : QT X c t) : QTs X [c] t := ⟨fun W tk m S σ σv H P rs re p pins s I => (pts_one (ptw c)).run pins s σv H _ I (h.run W tk m S σ σv H P rs re p)⟩
end
abbrev Bk (X : Cx) (scope : Scope) (s : Shared) (H : Hp) (C : Addr) (cl : List (Str × Addr)) (fp : List Addr) : Cx := X.blk s H scope (compEnvC scope cl C X.env) fp
section
variable {X : Cx} {elt tg iter : Expr} {ifs : List Expr} {scope : Scope} {own : List (Str × Nat)} {pos : Pos} {src : Env → M Itm} {vs : List Nat} {t : Tg} {tt : Env → M Bool} {f : Env → M D}
/-- the readings of a block's parts, in all its contexts -/
def gB (X : Cx) (scope : Scope) (tg : Expr) : TG := fun v σ H Q => ∀ s H0 C cl fp, wG (Bk X scope s H0 C cl fp) tg v σ H Q
def ttB (X : Cx) (scope : Scope) (ifs : List Expr) : TT := fun σ H Q => ∀ s0 H0 C cl fp, ∀ pins s, Inv (Bk X scope s0 H0 C cl fp) pins σ H s → wpAny (model X.prog X.w) X.A (forIn ifs true fun c r => if r = true then do let ok ← isTrue c (compEnvC scope cl C X.env) (eval c (compEnvC scope cl C X.env)); pure (ForInStep.yield ok) else pure (ForInStep.yield r)) (TP (Bk X scope s0 H0 C cl fp) pins σ Q) (fun _ _ => False) s
def teB (X : Cx) (scope : Scope) (e : Expr) : TE := fun σ H Q => ∀ s H0 C cl fp, wE (Bk X scope s H0 C cl fp) e σ H Q
theorem lc_reads (hi : QI X tg iter src) (hg : ∀ s H C cl fp, QG (Bk X scope s H C cl fp) tg vs t) (ht : ∀ s H C cl fp, QTs (Bk X scope s H C cl fp) ifs tt) (he : ∀ s H C cl fp, QE (Bk X scope s H C cl fp) elt f) (hv : ∀ i ∈ vs, i ∈ own.map (·.2))
    {W : WX} (tk : Takes X W) {m : List Addr} {S : Sto} {σ : Env} {σv : St} {H : Hp} {P : D → Sto → List Addr → Hp → Prop} {Q : VK} (rs : RS X.K m S H) (re : RE X.K m H σ σv)
    (p : PostG X.K X.mg m H (eLc (own.map (·.2)) src t tt f σ S) P (fun c d H' => W c d σv H')) (hQ : ∀ v H', GV X.K m H P v H' → Q v H') :
    tLc (wI X tg iter) (gB X scope tg) (ttB X scope ifs) (teB X scope elt) (own.map (·.2)) σv H Q := by
  refine (hi.run W tk m S σ σv H _ rs re p.bnd).mono ?_
  rintro J H1 ⟨it, S1, m1, rs1, ji, x1, q1⟩
  intro D0 hD
  obtain ⟨xp, rsp, gp⟩ := rs1.push (o := .lst []) (u := .lst []) hD (fun m' H' x => ⟨[], rfl, by simp only [RDs]⟩)
  refine ⟨fun i n H' => ∃ m S, RS X.K m S H' ∧ Ext (m1 ++ [D0]) (upd H1 D0 (.lst [])) m H' ∧ PostG X.K X.mg m H' (lcL it t tt f S1.n (wipeE σ (own.map (·.2))) n i S) (fun _ S' m' H'' => P (.loc S1.n) S' m' H'') (fun _ _ _ => False), ⟨cnt it S1, m1 ++ [D0], S1.push (.lst []), rsp, .refl _ _, ?_⟩, ?_⟩
  · have q2 := PostG.ext q1 xp
    cases el : lcL it t tt f S1.n (wipeE σ (own.map (·.2))) (cnt it S1) 0 (S1.push (.lst [])) with
    | ok u S' => simp only [el] at q2; exact q2
    | exc y S' => simp only [el] at q2; exact q2.elim
    | bad => simp only [el] at q2; exact q2
  · rintro i n H' ⟨m2, S2, rs2, x2, q2⟩
    have gn : m2[S1.n]? = some D0 := pre_get x2.pre gp
    cases n with
    | zero => exact q2.elim
    | succ n =>
      unfold lcL at q2
      cases en : nxt it i S2 with
      | none => rw [en] at q2; exact q2.elim
      | some o =>
        rw [en] at q2
        cases o with
        | none =>
          refine .inl ⟨ji.stop m2 S2 H' i (xp.trans x2) rs2 en, hQ _ _ ⟨.loc S1.n, S2, m2, rs2, ?_, (x1.trans xp).trans x2, q2 m2 H' (.refl _ _) rs2⟩⟩
          simp only [RD]
          exact ⟨D0, rfl, gn⟩
        | some d =>
          obtain ⟨g1, g2⟩ := ji.go m2 S2 H' i d (xp.trans x2) rs2 en
          refine .inr ⟨g1, fun H'' => ∃ m S, RS X.K m S H'' ∧ Ext (m1 ++ [D0]) (upd H1 D0 (.lst [])) m H'' ∧ PostG X.K X.mg m H'' (lcL it t tt f S1.n (wipeE σ (own.map (·.2))) n (i + 1) S) (fun _ S' m' H'' => P (.loc S1.n) S' m' H'') (fun _ _ _ => False), fun H'' h => ⟨n, Nat.lt_succ_self _, h⟩, fun x H3 hy => ?_⟩
          obtain ⟨rs3, x3, rd3⟩ := g2 x H3 hy
          have re3 : RE X.K m2 H3 (wipeE σ (own.map (·.2))) (L2.wipe σv (own.map (·.2))) := (((re.mono x1).mono xp).mono (x2.trans x3)).wipe _
          cases et : t d (wipeE σ (own.map (·.2))) with
          | none => simp only [et] at q2; exact q2.elim
          | some σ3 =>
            simp only [et] at q2
            intro s0 H0 C cl fp
            refine (hg s0 H0 C cl fp).run m2 S2 _ σ3 _ H3 d x _ rs3 re3 rd3 et fun σv3 re4 on => ⟨on.wipe hv, ?_⟩
            intro s1 H1' C1 cl1 fp1 pins s I
            have q3 := PostG.ext q2 x3
            have q4 : PostG X.K X.mg m2 H3 (tt σ3 S2) (fun k S4 m4 H4 => match k with
                | false => PostG X.K X.mg m4 H4 (lcL it t tt f S1.n (wipeE σ (own.map (·.2))) n (i + 1) S4) (fun _ S' m' H'' => P (.loc S1.n) S' m' H'') (fun _ _ _ => False)
                | true => PostG X.K X.mg m4 H4 (f σ3 S4) (fun y S5 m5 H5 => ∃ acc, S5.get S1.n = some (.lst acc) ∧ acc.length < sizeLine ∧ PostG X.K X.mg m5 H5 (lcL it t tt f S1.n (wipeE σ (own.map (·.2))) n (i + 1) (S5.set S1.n (.lst (acc ++ [y])))) (fun _ S' m' H'' => P (.loc S1.n) S' m' H'') (fun _ _ _ => False)) (fun _ _ _ => False)) (fun _ _ _ => False) := by
              cases e1 : tt σ3 S2 with
              | bad => simp only [e1] at q3; exact q3
              | exc y S4 => simp only [e1] at q3; exact q3.elim
              | ok k S4 =>
                cases k with
                | false => simp only [e1] at q3; exact fun m' H'' x' rs' => PostG.ext q3 x'
                | true =>
                  simp only [e1] at q3
                  intro m4 H4 x4 rs4
                  show PostG X.K X.mg m4 H4 (f σ3 S4) _ _
                  cases e2 : f σ3 S4 with
                  | bad => simp only [e2] at q3; exact q3
                  | exc y S5 => simp only [e2] at q3; exact q3.elim
                  | ok y S5 =>
                    simp only [e2] at q3
                    intro m5 H5 x5 rs5
                    cases e3 : S5.get S1.n with
                    | none => simp only [e3] at q3; exact q3.elim
                    | some o5 =>
                      cases o5 with
                      | lst acc =>
                        simp only [e3] at q3
                        cases e4 : Nat.blt acc.length sizeLine with
                        | false => simp only [e4] at q3; exact q3.elim
                        | true =>
                          simp only [e4] at q3
                          exact ⟨acc, rfl, Nat.le_of_ble_eq_true e4, PostG.ext q3 (x4.trans x5)⟩
                      | fz _ => simp only [e3] at q3; exact q3.elim
                      | dK _ => simp only [e3] at q3; exact q3.elim
                      | dT _ => simp only [e3] at q3; exact q3.elim
                      | fd _ => simp only [e3] at q3; exact q3.elim
            refine thn ((ht s1 H1' C1 cl1 fp1).run (fun _ _ _ _ => False) takes0 m2 S2 σ3 σv3 H3 _ rs3 re4 q4 pins s I) ?_
            rintro k s4 ⟨H4, I4, S4, m4, rs4, x4, q5⟩
            refine ⟨H4, I4, ?_⟩
            cases k with
            | false => exact iteF ⟨m4, S4, rs4, (x2.trans x3).trans x4, q5⟩
            | true =>
              refine iteT ?_
              intro s5 H5' C5 cl5 fp5
              refine ((he s5 H5' C5 cl5 fp5).run (fun _ _ _ _ => False) takes0 m4 S4 σ3 σv3 H4 _ rs4 (re4.mono x4) q5).mono ?_
              rintro y H5 ⟨d5, S5, m5, rs5, rd5, x5, acc, ea, hl, q6⟩
              have gn5 : m5[S1.n]? = some D0 := pre_get (x4.trans x5).pre (pre_get (x3.pre) gn)
              obtain ⟨ws, hw, rr⟩ := rs5.obj gn5 ea
              obtain ⟨x6, rs6⟩ := rs5.set (o := .lst (acc ++ [d5])) (u := .lst (ws ++ [y])) gn5 ea hw (fun _ z => nomatch z) (fun _ _ z => nomatch z) (fun m' H'' x' => ⟨_, rfl, RDs.snoc (RDs.mono x' _ _ rr) (RD.mono x' _ _ rd5)⟩)
              exact ⟨ws, hw, by rw [← rr.length]; exact hl, m5, _, rs6, (((x2.trans x3).trans x4).trans x5).trans x6, PostG.ext q6 x6⟩
end
end L2.Z

set_option Elab.async false
set_option linter.all false
set_option maxRecDepth 100000
set_option maxHeartbeats 4000000
/-! Z7: comprehensions as expressions and statements; operations by values. -/
namespace L2.Z
open PySem PySem.Spec PyProof.Rows
variable [HasT]
section
variable {X : Cx} {elt tg iter : Expr} {ifs : List Expr} {scope : Scope} {pos : Pos} {src : Env → M Itm} {vs : List Nat} {t : Tg} {tt : Env → M Bool} {f : Env → M D}
theorem pgB : ∀ (s : Shared) (H : Hp) (C : Addr) (cl : List (Str × Addr)) (fp : List Addr), PG (X.blk s H scope (compEnvC scope cl C X.env) fp) tg (gB X scope tg) := fun s H C cl fp => ⟨fun pins s1 σ H1 v u Q I r h => h s H C cl fp pins s1 u I r⟩
theorem ptB : ∀ (s : Shared) (H : Hp) (C : Addr) (cl : List (Str × Addr)) (fp : List Addr), PTs (X.blk s H scope (compEnvC scope cl C X.env) fp) ifs (ttB X scope ifs) := fun s H C cl fp => ⟨fun pins s1 σ H1 Q I h => h s H C cl fp pins s1 I⟩
theorem peB : ∀ (s : Shared) (H : Hp) (C : Addr) (cl : List (Str × Addr)) (fp : List Addr), PE (X.blk s H scope (compEnvC scope cl C X.env) fp) elt (teB X scope elt) := fun s H C cl fp => ⟨fun pins s1 σ H1 Q I h => h s H C cl fp pins s1 I⟩
theorem q_lc (own : List (Str × Nat)) (hc : X.calm = true) (hN : X.N.Nodup) (hi : QI X tg iter src) (ok : BlkOk X.N X.env.scope scope own) (hg : ∀ s H C cl fp, QG (Bk X scope s H C cl fp) tg vs t) (ht : ∀ s H C cl fp, QTs (Bk X scope s H C cl fp) ifs tt) (he : ∀ s H C cl fp, QE (Bk X scope s H C cl fp) elt f)
    (hv : ∀ i ∈ vs, i ∈ own.map (·.2)) (hs : ∀ x, foldedSetIterable iter X.env x = pure x := by intro _; rfl) : QE X (.ListComp elt [⟨tg, iter, ifs, 0⟩] scope pos) (eLc (own.map (·.2)) src t tt f) := ⟨fun W tk m S σ σv H P rs re p =>
  wE.of (pe_lc hc hN (piw tg iter) ok pgB ptB peB hs) (lc_reads hi hg ht he hv tk rs re p fun _ _ h => h)⟩
theorem qs_setLc (i : Nat) (own : List (Str × Nat)) {y : Str} {py spos : Pos} (hc : X.calm = true) (hN : X.N.Nodup) (hi : QI X tg iter src) (ok : BlkOk X.N X.env.scope scope own) (hg : ∀ s H C cl fp, QG (Bk X scope s H C cl fp) tg vs t) (ht : ∀ s H C cl fp, QTs (Bk X scope s H C cl fp) ifs tt) (he : ∀ s H C cl fp, QE (Bk X scope s H C cl fp) elt f)
    (hv : ∀ i ∈ vs, i ∈ own.map (·.2)) (hsw : swapsWith (.ListComp elt [⟨tg, iter, ifs, 0⟩] scope pos) (some (.Name y py)) spos.line X.env = pure true) (hy : X.N[i]? = some y := by kernel_rfl) (hyl : X.env.scope.names.lookup y = some .local := by kernel_rfl)
    (hs : ∀ x, foldedSetIterable iter X.env x = pure x := by intro _; rfl) : QS X (.Assign [.Name y py] (.ListComp elt [⟨tg, iter, ifs, 0⟩] scope pos) spos) (sSet i (eLc (own.map (·.2)) src t tt f)) := ⟨fun W tk m S σ σv H Dn rs re p => by
  refine wS.of (ps_setLc hc hN hy hyl hsw (piw tg iter) ok pgB ptB peB hs) ?_
  refine lc_reads hi hg ht he hv tk rs re (PostS.sE re p) ?_
  rintro v H1 ⟨d, S1, m1, rs1, r1, x1, q1⟩
  exact q1 m1 H1 _ (.refl _ _) rs1 ((re.mono x1).set r1 i)⟩
end

/-! ### ints -/
def iF (g : Int → Int → Option D) : F2 := fun x y S => match x, y with
  | .int i, .int j => (g i j).map fun d => (d, S)
  | _, _ => none
theorem iF_some {g : Int → Int → Option D} {x y : D} {S S' : Sto} {d : D} (h : iF g x y S = some (d, S')) : ∃ i j, x = .int i ∧ y = .int j ∧ g i j = some d ∧ S' = S := by
  unfold iF at h
  split at h
  · rename_i i j
    cases e : g i j with
    | none => rw [e] at h; cases h
    | some d' => rw [e] at h; cases h; exact ⟨i, j, rfl, rfl, e, rfl⟩
  · cases h
def fSub : F2 := iF fun i j => some (.int (i - j))
def fMod0 : F2 := iF fun i j => match decide (0 < j) with
  | true => some (.int (i % j))
  | false => none
def fDiv0 : F2 := iF fun i j => match decide (0 < j) && decide (j < 1073741824) with
  | true => some (.int (i / j))
  | false => none
@[irreducible] def fMod : F2 := fMod0
theorem fMod_eq : fMod = fMod0 := by unfold fMod; rfl
@[irreducible] def fDiv : F2 := fDiv0
theorem fDiv_eq : fDiv = fDiv0 := by unfold fDiv; rfl
def small64 (i : Int) : Bool := decide (-(2 ^ 64) < i) && decide (i < 2 ^ 64)
def fPow0 : F2 := iF fun i j => match decide (0 ≤ j) && decide (j ≤ 1000000) && decide (i.natAbs < 2 ^ 64) with
  | true => some (.int (i ^ j.toNat))
  | false => none
@[irreducible] def fPow : F2 := fPow0
theorem fPow_eq : fPow = fPow0 := by unfold fPow; rfl
def fLt : F2 := iF fun i j => some (.bl (decide (i < j)))
def fLe : F2 := iF fun i j => some (.bl (decide (i ≤ j)))
def fGt : F2 := iF fun i j => some (.bl (decide (j < i)))
def fGe : F2 := iF fun i j => some (.bl (decide (j ≤ i)))
section
variable {X : Cx}
theorem r_int {F : Value → Value → Sem Value} {C : Int → Int → Prop} {k : Int → Int → V} {g : Int → Int → Option D} (ho : OpR X F (rI C k)) (h : ∀ i j d, g i j = some d → C i j ∧ ∀ m H, RD X.K m H d (k i j)) : OpR X F (rF2 X.K (iF g)) := by
  intro pins s σ H x y v u Q I rx ry q
  obtain ⟨m, S, d1, d2, d, S', rs, r1, r2, e, fin⟩ := q
  obtain ⟨i, j, rfl, rfl, eg, rfl⟩ := iF_some e
  simp only [RD] at r1 r2
  obtain ⟨hC, hk⟩ := h i j d eg
  exact ho pins s σ H x y v u Q I rx ry ⟨i, j, r1, r2, hC, fin m H _ (.refl _ _) rs (hk m H)⟩
theorem r_int0 {F : Value → Value → Sem Value} {k : Int → Int → V} {g : Int → Int → Option D} (ho : OpR X F (rI0 k)) (h : ∀ i j d, g i j = some d → ∀ m H, RD X.K m H d (k i j)) : OpR X F (rF2 X.K (iF g)) := by
  intro pins s σ H x y v u Q I rx ry q
  obtain ⟨m, S, d1, d2, d, S', rs, r1, r2, e, fin⟩ := q
  obtain ⟨i, j, rfl, rfl, eg, rfl⟩ := iF_some e
  simp only [RD] at r1 r2
  exact ho pins s σ H x y v u Q I rx ry ⟨i, j, r1, r2, fin m H _ (.refl _ _) rs (h i j d eg m H)⟩
theorem r_sub : OpR X (binaryOp .Sub) (rF2 X.K fSub) := r_int0 op_sub fun i j d e m H => by cases e; simp only [RD]
theorem r_mod0 : OpR X (binaryOp .Mod) (rF2 X.K fMod0) := r_int op_mod fun i j d e => by
  cases h : decide (0 < j) with
  | false => rw [h] at e; cases e
  | true => rw [h] at e; cases e; exact ⟨of_decide_eq_true h, fun m H => by simp only [RD]⟩
theorem r_mod : OpR X (binaryOp .Mod) (rF2 X.K fMod) := by rw [fMod_eq]; exact r_mod0
theorem r_fdiv0 : OpR X (binaryOp .FloorDiv) (rF2 X.K fDiv0) := r_int op_fdiv fun i j d e => by
  cases h : (decide (0 < j) && decide (j < 1073741824)) with
  | false => rw [h] at e; cases e
  | true =>
    rw [h] at e; cases e
    have h2 := Bool.and_eq_true_iff.mp h
    exact ⟨⟨of_decide_eq_true h2.1, of_decide_eq_true h2.2⟩, fun m H => by simp only [RD]⟩
theorem r_fdiv : OpR X (binaryOp .FloorDiv) (rF2 X.K fDiv) := by rw [fDiv_eq]; exact r_fdiv0
theorem r_pow0 : OpR X (binaryOp .Pow) (rF2 X.K fPow0) := r_int op_pow fun i j d e => by
  cases h : (decide (0 ≤ j) && decide (j ≤ 1000000) && decide (i.natAbs < 2 ^ 64)) with
  | false => rw [h] at e; cases e
  | true =>
    rw [h] at e; cases e
    have h2 := Bool.and_eq_true_iff.mp h
    have h3 := Bool.and_eq_true_iff.mp h2.1
    exact ⟨⟨of_decide_eq_true h3.1, of_decide_eq_true h3.2, of_decide_eq_true h2.2⟩, fun m H => by simp only [RD]⟩
theorem r_pow : OpR X (binaryOp .Pow) (rF2 X.K fPow) := by rw [fPow_eq]; exact r_pow0
theorem r_lt : OpR X (compareOp .Lt) (rF2 X.K fLt) := r_int0 op_lt fun i j d e m H => by cases e; simp only [RD]
theorem r_le : OpR X (compareOp .LtE) (rF2 X.K fLe) := r_int0 op_le fun i j d e m H => by cases e; simp only [RD]
theorem r_gt : OpR X (compareOp .Gt) (rF2 X.K fGt) := r_int0 op_gt fun i j d e m H => by cases e; simp only [RD]
theorem r_ge : OpR X (compareOp .GtE) (rF2 X.K fGe) := r_int0 op_ge fun i j d e m H => by cases e; simp only [RD]
theorem b_iF {g : Int → Int → Option D} (h : ∀ i j d, g i j = some d → ∃ b, d = .bl b) : BoolF (iF g) := fun x y S d S' e => by
  obtain ⟨i, j, _, _, eg, _⟩ := iF_some e
  exact h i j d eg
theorem b_lt : BoolF fLt := b_iF fun i j d e => by cases e; exact ⟨_, rfl⟩
theorem b_le : BoolF fLe := b_iF fun i j d e => by cases e; exact ⟨_, rfl⟩
theorem b_gt : BoolF fGt := b_iF fun i j d e => by cases e; exact ⟨_, rfl⟩
theorem b_ge : BoolF fGe := b_iF fun i j d e => by cases e; exact ⟨_, rfl⟩
end

/-! ### +, * : ints, texts, tuples, lists -/
def fAdd : F2 := fun x y S => match x, y with
  | .int i, .int j => some (.int (i + j), S)
  | .str a, .str b => match Nat.ble (a.length + b.length) sizeLine with
    | true => some (.str (a ++ b), S)
    | false => none
  | .tup xs, .tup ys => match Nat.ble (xs.length + ys.length) sizeLine with
    | true => some (.tup (xs ++ ys), S)
    | false => none
  | .loc a, .loc b => match S.get a, S.get b with
    | some (.lst xs), some (.lst ys) => match Nat.ble (xs.length + ys.length) sizeLine with
      | true => some (.loc S.n, S.push (.lst (xs ++ ys)))
      | false => none
    | _, _ => none
  | _, _ => none
@[irreducible] def fMul : F2 := fun x y S => match x, y with
  | .int i, .int j => match small64 i || small64 j with
    | true => some (.int (i * j), S)
    | false => none
  | .loc a, .int k => match S.get a with
    | some (.lst xs) => match decide (-(2 ^ 63) ≤ k) && decide (k < 2 ^ 63) && Nat.ble (xs.length * k.toNat) sizeLine with
      | true => some (.loc S.n, S.push (.lst (List.replicate k.toNat xs).flatten))
      | false => none
    | _ => none
  | .tup xs, .int k => match !xs.isEmpty && decide (2 ≤ k) && decide (k ≤ 1000) && Nat.ble xs.length 1000 with
    | true => some (.tup (List.replicate k.toNat xs).flatten, S)
    | false => none
  | _, _ => none
theorem RDs.append {K : PySem.W.Frag} {m : List Addr} {H : Hp} : ∀ {ds es : List D} {vs ws : List V}, RDs K m H ds vs → RDs K m H es ws → RDs K m H (ds ++ es) (vs ++ ws)
  | [], es, vs, ws, h, q => by simp only [RDs] at h; subst h; exact q
  | d0 :: ds, es, vs, ws, h, q => by
    simp only [RDs] at h
    obtain ⟨v0, r, rfl, q0, t⟩ := h
    simp only [List.cons_append, RDs]
    exact ⟨v0, r ++ ws, rfl, q0, RDs.append t q⟩
theorem RDs.rep {K : PySem.W.Frag} {m : List Addr} {H : Hp} {ds : List D} {vs : List V} (h : RDs K m H ds vs) : ∀ n : Nat, RDs K m H (List.replicate n ds).flatten (List.replicate n vs).flatten
  | 0 => by simp only [List.replicate_zero, List.flatten_nil, RDs]
  | n + 1 => by
    rw [List.replicate_succ, List.replicate_succ, List.flatten_cons, List.flatten_cons]
    exact RDs.append h (RDs.rep h n)
section
variable {X : Cx}
theorem newLst {K : PySem.W.Frag} {m : List Addr} {S : Sto} {H : Hp} {ds : List D} {vs : List V} {Q : VK} (rs : RS K m S H) (r : RDs K m H ds vs) (fin : ∀ m' H' v, Ext m H m' H' → RS K m' (S.push (.lst ds)) H' → RD K m' H' (.loc S.n) v → Q v H') : ∀ p, H p = none → Q (.ref p) (upd H p (.lst vs)) := fun p hp => by
  obtain ⟨x3, rs3, g3⟩ := rs.push (o := .lst ds) (u := .lst vs) hp (fun m' H' x => ⟨vs, rfl, RDs.mono x _ _ r⟩)
  exact fin _ _ _ x3 rs3 (by simp only [RD]; exact ⟨p, rfl, g3⟩)
theorem newTup {K : PySem.W.Frag} {m : List Addr} {S : Sto} {H : Hp} {ds : List D} {vs : List V} {Q : VK} (rs : RS K m S H) (r : RDs K m H ds vs) (fin : ∀ m' H' v, Ext m H m' H' → RS K m' S H' → RD K m' H' (.tup ds) v → Q v H') : ∀ p, H p = none → Q (.ref p) (upd H p (.tup vs)) := fun p hp =>
  fin m _ _ (.new hp) (rs.new hp) (RD.newTup hp r)
theorem RDs.nil_iff {K : PySem.W.Frag} {m : List Addr} {H : Hp} {ds : List D} {vs : List V} (r : RDs K m H ds vs) : ds = [] ↔ vs = [] := by
  have := r.length
  constructor
  · intro e
    subst e
    exact List.eq_nil_of_length_eq_zero this.symm
  · intro e
    subst e
    exact List.eq_nil_of_length_eq_zero this
theorem r_add : OpR X (binaryOp .Add) (rF2 X.K fAdd) := by
  intro pins s σ H x y v u Q I rx ry q
  obtain ⟨m, S, d1, d2, d, S', rs, r1, r2, e, fin⟩ := q
  unfold fAdd at e
  split at e
  · cases e
    simp only [RD] at r1 r2
    exact op_add pins s σ H x y v u Q I rx ry ⟨_, _, r1, r2, fin m H _ (.refl _ _) rs (by simp only [RD])⟩
  · split at e
    · rename_i hl
      cases e
      simp only [RD] at r1 r2
      exact op_add_str pins s σ H x y v u Q I rx ry ⟨_, _, r1, r2, Nat.le_of_ble_eq_true hl, fin m H _ (.refl _ _) rs (by simp only [RD])⟩
    · cases e
  · rename_i xs ys
    split at e
    · rename_i hl
      cases e
      simp only [RD] at r1 r2
      obtain ⟨a, vs, rfl, hq, rr⟩ := r1
      obtain ⟨b, ws, rfl, hq', rr'⟩ := r2
      refine op_catA pins s σ H _ _ v u Q I rx ry ⟨a, b, vs, ws, rfl, rfl, hq, hq', by rw [← rr.length, ← rr'.length]; exact Nat.le_of_ble_eq_true hl, fun e => ?_, fun n e => ?_, fun n n' => ?_⟩
      · refine fin m H _ (.refl _ _) rs ?_
        rw [rr.nil_iff.mpr e, List.nil_append]
        simp only [RD]
        exact ⟨b, ws, rfl, hq', rr'⟩
      · refine fin m H _ (.refl _ _) rs ?_
        rw [rr'.nil_iff.mpr e, List.append_nil]
        simp only [RD]
        exact ⟨a, vs, rfl, hq, rr⟩
      · exact newTup rs (rr.append rr') fin
    · cases e
  · rename_i a b
    split at e
    · rename_i xs ys e1 e2
      split at e
      · rename_i hl
        cases e
        simp only [RD] at r1 r2
        obtain ⟨a', rfl, hm⟩ := r1
        obtain ⟨b', rfl, hm'⟩ := r2
        obtain ⟨vs, h1, t1⟩ := rs.obj hm e1
        obtain ⟨ws, h2, t2⟩ := rs.obj hm' e2
        exact op_cat pins s σ H _ _ v u Q I rx ry ⟨a', b', vs, ws, rfl, rfl, h1, h2, by rw [← t1.length, ← t2.length]; exact Nat.le_of_ble_eq_true hl, newLst rs (t1.append t2) fin⟩
      · cases e
    · cases e
  · cases e
theorem r_mul : OpR X (binaryOp .Mult) (rF2 X.K fMul) := by
  intro pins s σ H x y v u Q I rx ry q
  obtain ⟨m, S, d1, d2, d, S', rs, r1, r2, e, fin⟩ := q
  unfold fMul at e
  split at e
  · split at e
    · rename_i hl
      cases e
      simp only [RD] at r1 r2
      refine op_mul pins s σ H x y v u Q I rx ry ⟨_, _, r1, r2, ?_, fin m H _ (.refl _ _) rs (by simp only [RD])⟩
      rcases Bool.or_eq_true_iff.mp hl with h | h
      · have h2 := Bool.and_eq_true_iff.mp h; exact .inl ⟨of_decide_eq_true h2.1, of_decide_eq_true h2.2⟩
      · have h2 := Bool.and_eq_true_iff.mp h; exact .inr ⟨of_decide_eq_true h2.1, of_decide_eq_true h2.2⟩
    · cases e
  · split at e
    · rename_i xs e1
      split at e
      · rename_i hl
        cases e
        simp only [RD] at r1 r2
        obtain ⟨a', rfl, hm⟩ := r1
        obtain ⟨vs, h1, t1⟩ := rs.obj hm e1
        have h2 := Bool.and_eq_true_iff.mp hl
        have h3 := Bool.and_eq_true_iff.mp h2.1
        exact op_rep pins s σ H _ _ v u Q I rx ry ⟨a', _, vs, rfl, r2, h1, of_decide_eq_true h3.1, of_decide_eq_true h3.2, by rw [← t1.length]; exact Nat.le_of_ble_eq_true h2.2, newLst rs (t1.rep _) fin⟩
      · cases e
    · cases e
  · rename_i xs k
    split at e
    · rename_i hl
      cases e
      simp only [RD] at r1 r2
      obtain ⟨a', vs, rfl, hq, t1⟩ := r1
      have h2 := Bool.and_eq_true_iff.mp hl
      have h3 := Bool.and_eq_true_iff.mp h2.1
      have h4 := Bool.and_eq_true_iff.mp h3.1
      refine op_repT pins s σ H _ _ v u Q I rx ry ⟨a', _, vs, rfl, r2, hq, fun z => ?_, of_decide_eq_true h4.2, of_decide_eq_true h3.2, by rw [← t1.length]; exact Nat.le_of_ble_eq_true h2.2, newTup rs (t1.rep _) fin⟩
      have := t1.nil_iff.mpr z
      rw [this] at h4
      exact absurd h4.1 (by decide)
    · cases e
  · cases e
end
end L2.Z

set_option Elab.async false
set_option linter.all false
set_option maxRecDepth 100000
set_option maxHeartbeats 4000000
/-! Z8: equality, is, in, subscripts, slices, isinstance, len. -/
namespace L2.Z
open PySem PySem.Spec PyProof.Rows
variable [HasT]

def toPDs (f : D → Option PyData) : List D → Option (List PyData)
  | [] => some []
  | d :: ds => match f d with
    | none => none
    | some p => match toPDs f ds with
      | none => none
      | some ps => some (p :: ps)
def toPD0 : D → Option PyData
  | .non => some .none
  | .bl b => some (.bool b)
  | .int i => some (.int i)
  | .str x => match PyData.strOk x with
    | true => some (.str x)
    | false => none
  | _ => none
def toPD : Nat → Sto → D → Option PyData
  | 0, _, d => toPD0 d
  | n + 1, S, d => match d with
    | .tup xs => (toPDs (toPD n S) xs).map .tuple
    | .loc k => (lstAt S k).bind fun xs => (toPDs (toPD n S) xs).map .list
    | .scr ns => some (.list (ns.map .int))
    | d => toPD0 d
theorem toPD0_dp {K : PySem.W.Frag} {m : List Addr} {H : Hp} {d : D} {v : V} {p : PyData} (r : RD K m H d v) (e : toPD0 d = some p) : Dp K H v p ∧ p.canLay0 = true ∧ p.depth = 0 := by
  unfold toPD0 at e
  split at e
  · cases e; simp only [RD] at r; subst r; exact ⟨.non, by simp [PyData.canLay0], by simp [PyData.depth]⟩
  · cases e; simp only [RD] at r; subst r; exact ⟨.bl _, by simp [PyData.canLay0], by simp [PyData.depth]⟩
  · cases e; simp only [RD] at r; subst r; exact ⟨.int _, by simp [PyData.canLay0], by simp [PyData.depth]⟩
  · split at e
    · rename_i h
      cases e; simp only [RD] at r; subst r; exact ⟨.str _, by simpa [PyData.canLay0] using h, by simp [PyData.depth]⟩
    · cases e
  · cases e
theorem toPDs_dp {K : PySem.W.Frag} {m : List Addr} {H : Hp} {f : D → Option PyData} {n : Nat} (hf : ∀ d v p, RD K m H d v → f d = some p → Dp K H v p ∧ p.canLay0 = true ∧ p.depth ≤ n) : ∀ {ds : List D} {vs : List V} {ps : List PyData}, RDs K m H ds vs → toPDs f ds = some ps → DpAll K H vs ps ∧ PyData.canLayAll0 ps = true ∧ PyData.depthAll ps ≤ n
  | [], vs, ps, r, e => by
    simp only [RDs] at r; subst r
    cases e
    exact ⟨.nil, by simp [PyData.canLayAll0], by simp [PyData.depthAll]⟩
  | d :: ds, vs, ps, r, e => by
    simp only [RDs] at r
    obtain ⟨v, vs', rfl, rd, rr⟩ := r
    unfold toPDs at e
    split at e
    · cases e
    · rename_i p ep
      split at e
      · cases e
      · rename_i ps' eps
        cases e
        obtain ⟨h1, h2, h3⟩ := hf d v p rd ep
        obtain ⟨g1, g2, g3⟩ := toPDs_dp hf rr eps
        exact ⟨.cons h1 g1, by simp [PyData.canLayAll0, h2, g2], by simp [PyData.depthAll]; omega⟩
theorem toPD_dp {K : PySem.W.Frag} {m : List Addr} {S : Sto} {H : Hp} (rs : RS K m S H) : ∀ (n : Nat) (d : D) (v : V) (p : PyData), RD K m H d v → toPD n S d = some p → Dp K H v p ∧ p.canLay0 = true ∧ p.depth ≤ n
  | 0, d, v, p, r, e => by
    obtain ⟨h1, h2, h3⟩ := toPD0_dp r e
    exact ⟨h1, h2, by omega⟩
  | n + 1, d, v, p, r, e => by
    unfold toPD at e
    split at e
    · rename_i xs
      cases es : toPDs (toPD n S) xs with
      | none => rw [es] at e; cases e
      | some ps =>
        rw [es] at e
        cases e
        simp only [RD] at r
        obtain ⟨a, vs, rfl, hq, rr⟩ := r
        obtain ⟨h1, h2, h3⟩ := toPDs_dp (toPD_dp rs n) rr es
        exact ⟨.tup hq h1, by simpa [PyData.canLay0] using h2, by simp [PyData.depth]; omega⟩
    · rename_i k
      cases el : lstAt S k with
      | none => rw [el] at e; cases e
      | some xs =>
        rw [el] at e
        cases es : toPDs (toPD n S) xs with
        | none => simp only [es, Option.bind_some] at e; cases e
        | some ps =>
          simp only [es, Option.bind_some] at e
          cases e
          simp only [RD] at r
          obtain ⟨a, rfl, hm⟩ := r
          obtain ⟨vs, hq, rr⟩ := rs.lst hm el
          obtain ⟨h1, h2, h3⟩ := toPDs_dp (toPD_dp rs n) rr es
          exact ⟨.lst hq h1, by simpa [PyData.canLay0] using h2, by simp [PyData.depth]; omega⟩
    · rename_i ns
      cases e
      simp only [RD] at r
      obtain ⟨a, rfl, q⟩ := r
      have hd : ∀ l : List Int, DpAll K H (l.map V.int) (l.map PyData.int) ∧ PyData.canLayAll0 (l.map PyData.int) = true ∧ PyData.depthAll (l.map PyData.int) = 0 := fun l => by
        induction l with
        | nil => exact ⟨.nil, by simp [PyData.canLayAll0], by simp [PyData.depthAll]⟩
        | cons i l ih => exact ⟨.cons (.int i) ih.1, by simp [PyData.canLayAll0, PyData.canLay0, ih.2.1], by simp [PyData.depthAll, PyData.depth, ih.2.2]⟩
      obtain ⟨h1, h2, h3⟩ := hd ns
      exact ⟨.lst q.sq h1, by simpa [PyData.canLay0] using h2, by simp [PyData.depth, h3]⟩
    · obtain ⟨h1, h2, h3⟩ := toPD0_dp r e
      exact ⟨h1, h2, by omega⟩
theorem toPD_ok {K : PySem.W.Frag} {m : List Addr} {S : Sto} {H : Hp} (rs : RS K m S H) {d : D} {v : V} {p : PyData} (r : RD K m H d v) (e : toPD 40 S d = some p) : Dp K H v p ∧ SeqAt.shaped p = true := by
  obtain ⟨h1, h2, h3⟩ := toPD_dp rs 40 d v p r e
  exact ⟨h1, by unfold SeqAt.shaped; rw [h2, decide_eq_true (by omega)]; rfl⟩
def fPD (g : PyData → PyData → Option Bool) : F2 := fun x y S => match toPD 40 S x with
  | none => none
  | some p => match toPD 40 S y with
    | none => none
    | some q => match g p q with
      | some b => some (.bl b, S)
      | none => none
theorem fPD_some {g : PyData → PyData → Option Bool} {x y : D} {S S' : Sto} {d : D} (h : fPD g x y S = some (d, S')) : ∃ p q b, toPD 40 S x = some p ∧ toPD 40 S y = some q ∧ g p q = some b ∧ d = .bl b ∧ S' = S := by
  unfold fPD at h
  split at h
  · cases h
  · rename_i p ep
    split at h
    · cases h
    · rename_i q eq
      split at h
      · rename_i b eb
        cases h
        exact ⟨p, q, b, ep, eq, eb, rfl, rfl⟩
      · cases h
theorem b_fPD (g : PyData → PyData → Option Bool) : BoolF (fPD g) := fun x y S d S' e => by
  obtain ⟨_, _, b, _, _, _, h, _⟩ := fPD_some e
  exact ⟨b, h⟩
def fEq : F2 := fPD fun p q => some (PyData.eqv p q)
def fNe : F2 := fPD fun p q => some (!PyData.eqv p q)
def seqPD : PyData → Option (List PyData)
  | .list ps => some ps
  | .tuple ps => some ps
  | _ => none
def fIn : F2 := fPD fun p q => (seqPD q).map fun ps => ps.any fun z => PyData.eqv z p
def fNotIn : F2 := fPD fun p q => (seqPD q).map fun ps => !ps.any fun z => PyData.eqv z p
section
variable {X : Cx}
theorem r_eq {k : Nat} (hr : Rm k X.A) : OpR X (compareOp .Eq) (rF2 X.K fEq) := by
  intro pins s σ H x y v u Q I rx ry h
  obtain ⟨m, S, d1, d2, d, S', rs, r1, r2, e, fin⟩ := h
  obtain ⟨p, q, b, ep, eq, eb, rfl, rfl⟩ := fPD_some e
  cases eb
  obtain ⟨h1, h2⟩ := toPD_ok rs r1 ep
  obtain ⟨g1, g2⟩ := toPD_ok rs r2 eq
  exact op_eqD hr.units pins s σ H x y v u Q I rx ry ⟨p, q, h1, g1, h2, g2, fin m H _ (.refl _ _) rs (by simp only [RD])⟩
theorem r_ne {k : Nat} (hr : Rm k X.A) : OpR X (compareOp .NotEq) (rF2 X.K fNe) := by
  intro pins s σ H x y v u Q I rx ry h
  obtain ⟨m, S, d1, d2, d, S', rs, r1, r2, e, fin⟩ := h
  obtain ⟨p, q, b, ep, eq, eb, rfl, rfl⟩ := fPD_some e
  cases eb
  obtain ⟨h1, h2⟩ := toPD_ok rs r1 ep
  obtain ⟨g1, g2⟩ := toPD_ok rs r2 eq
  exact op_neD hr.units pins s σ H x y v u Q I rx ry ⟨p, q, h1, g1, h2, g2, fin m H _ (.refl _ _) rs (by simp only [RD])⟩
theorem room65 {k : Nat} {A : Around} (hr : Rm k A) : A.units + 65 < cLine := by have := hr.un; omega
theorem inRoom {A : Around} {xs : List PyData} {d : PyData} (hu : A.units + 65 < cLine) (hd : d.depth ≤ 40) : A.units + 1 + min (PyData.depthAll xs) d.depth < cLine := by
  have := Nat.min_le_right (PyData.depthAll xs) d.depth
  omega
theorem r_in {k : Nat} (hr : Rm k X.A) : OpR X (compareOp .In) (rF2 X.K fIn) := by
  intro pins s σ H x y v u Q I rx ry h
  obtain ⟨m, S, d1, d2, d, S', rs, r1, r2, e, fin⟩ := h
  obtain ⟨p, q, b, ep, eq, eb, rfl, rfl⟩ := fPD_some e
  obtain ⟨h1, h2, h3⟩ := toPD_dp rs 40 _ _ _ r1 ep
  obtain ⟨g1, g2, g3⟩ := toPD_dp rs 40 _ _ _ r2 eq
  obtain ⟨as, R1⟩ := Dp.reads I p x v h1 rx
  obtain ⟨bs, R2⟩ := Dp.reads I q y u g1 ry
  cases q with
  | list ps => cases eb; exact SeqAt.in_list_reads R2 R1 (by simpa [PyData.canLay0] using g2) h2 (inRoom (room65 hr) h3) ⟨.bl _, H, I, rfl, fin m H _ (.refl _ _) rs (by simp only [RD])⟩
  | tuple ps => cases eb; exact SeqAt.in_tuple_reads R2 R1 (by simpa [PyData.canLay0] using g2) h2 (inRoom (room65 hr) h3) ⟨.bl _, H, I, rfl, fin m H _ (.refl _ _) rs (by simp only [RD])⟩
  | _ => cases eb
theorem r_notIn {k : Nat} (hr : Rm k X.A) : OpR X (compareOp .NotIn) (rF2 X.K fNotIn) := by
  intro pins s σ H x y v u Q I rx ry h
  obtain ⟨m, S, d1, d2, d, S', rs, r1, r2, e, fin⟩ := h
  obtain ⟨p, q, b, ep, eq, eb, rfl, rfl⟩ := fPD_some e
  obtain ⟨h1, h2, h3⟩ := toPD_dp rs 40 _ _ _ r1 ep
  obtain ⟨g1, g2, g3⟩ := toPD_dp rs 40 _ _ _ r2 eq
  obtain ⟨as, R1⟩ := Dp.reads I p x v h1 rx
  obtain ⟨bs, R2⟩ := Dp.reads I q y u g1 ry
  cases q with
  | list ps => cases eb; exact SeqAt.notIn_list_reads R2 R1 (by simpa [PyData.canLay0] using g2) h2 (inRoom (room65 hr) h3) ⟨.bl _, H, I, rfl, fin m H _ (.refl _ _) rs (by simp only [RD])⟩
  | tuple ps => cases eb; exact SeqAt.notIn_tuple_reads R2 R1 (by simpa [PyData.canLay0] using g2) h2 (inRoom (room65 hr) h3) ⟨.bl _, H, I, rfl, fin m H _ (.refl _ _) rs (by simp only [RD])⟩
  | _ => cases eb
end

/-! ### is -/
def isNone : D → Bool
  | .non => true
  | _ => false
def fIs : F2 := fun x y S => match y with
  | .non => some (.bl (isNone x), S)
  | .bl b => match x with
    | .bl a => some (.bl (decide (a = b)), S)
    | _ => none
  | _ => none
def fIsNot : F2 := fun x y S => match y with
  | .non => some (.bl (!isNone x), S)
  | .bl b => match x with
    | .bl a => some (.bl (!decide (a = b)), S)
    | _ => none
  | _ => none
theorem RD.isNone {K : PySem.W.Frag} {m : List Addr} {H : Hp} {d : D} {v : V} (r : RD K m H d v) : decide (v = .non) = Z.isNone d := by
  cases d with
  | non => simp only [RD] at r; subst r; rfl
  | bl b => simp only [RD] at r; subst r; rfl
  | int b => simp only [RD] at r; subst r; rfl
  | str b => simp only [RD] at r; subst r; rfl
  | tup b => simp only [RD] at r; obtain ⟨a, vs, rfl, _⟩ := r; rfl
  | loc b => simp only [RD] at r; obtain ⟨a, rfl, _⟩ := r; rfl
  | xc _ _ _ => simp only [RD] at r; obtain ⟨a, _, _, rfl, _⟩ := r; rfl
  | lam _ _ _ _ _ => simp only [RD] at r; obtain ⟨rfl, _⟩ := r; rfl
  | scr _ => simp only [RD] at r; obtain ⟨a, rfl, _⟩ := r; rfl
  | xtp _ => simp only [RD] at r; obtain ⟨a, _, _, rfl, _⟩ := r; rfl
  | adr _ => simp only [RD] at r; subst r; rfl
section
variable {X : Cx}
theorem r_is : OpR X (compareOp .Is) (rF2 X.K fIs) := by
  intro pins s σ H x y v u Q I rx ry h
  obtain ⟨m, S, d1, d2, d, S', rs, r1, r2, e, fin⟩ := h
  unfold fIs at e
  split at e
  · cases e
    simp only [RD] at r2
    refine op_isN pins s σ H x y v u Q I rx ry ⟨r2, ?_⟩
    rw [r1.isNone]
    exact fin m H _ (.refl _ _) rs (by simp only [RD])
  · split at e
    · cases e
      simp only [RD] at r1 r2
      exact op_is_bl pins s σ H x y v u Q I rx ry ⟨_, _, r1, r2, fin m H _ (.refl _ _) rs (by simp only [RD])⟩
    · cases e
  · cases e
theorem r_isNot : OpR X (compareOp .IsNot) (rF2 X.K fIsNot) := by
  intro pins s σ H x y v u Q I rx ry h
  obtain ⟨m, S, d1, d2, d, S', rs, r1, r2, e, fin⟩ := h
  unfold fIsNot at e
  split at e
  · cases e
    simp only [RD] at r2
    refine op_notN pins s σ H x y v u Q I rx ry ⟨r2, ?_⟩
    rw [r1.isNone]
    exact fin m H _ (.refl _ _) rs (by simp only [RD])
  · split at e
    · cases e
      simp only [RD] at r1 r2
      exact op_isnot_bl pins s σ H x y v u Q I rx ry ⟨_, _, r1, r2, fin m H _ (.refl _ _) rs (by simp only [RD])⟩
    · cases e
  · cases e
theorem b_is : BoolF fIs := fun x y S d S' e => by
  unfold fIs at e
  split at e
  · cases e; exact ⟨_, rfl⟩
  · split at e
    · cases e; exact ⟨_, rfl⟩
    · cases e
  · cases e
theorem b_isNot : BoolF fIsNot := fun x y S d S' e => by
  unfold fIsNot at e
  split at e
  · cases e; exact ⟨_, rfl⟩
  · split at e
    · cases e; exact ⟨_, rfl⟩
    · cases e
  · cases e
end

/-! ### subscripts: tuples, lists, dicts -/
def atD {α : Type} (xs : List α) (i : Int) : Option α := (ixN xs.length i).bind fun j => xs[j]?
def keyOf : D → Option Key
  | .int i => some (.inl i)
  | .str x => some (.inr x)
  | _ => none
def keysOf : List D → Option (List Key)
  | [] => some []
  | d :: ds => match keyOf d with
    | none => none
    | some k => match keysOf ds with
      | none => none
      | some ks => some (k :: ks)
def dGet {κ : Type} [DecidableEq κ] (kvs : List (κ × D)) (k : κ) : Option D := (kvs.find? fun kv => decide (kv.1 = k)).map (·.2)
def fIx : F2 := fun x y S => match x, y with
  | .tup xs, .int i => (atD xs i).map fun d => (d, S)
  | .loc n, .int i => match S.get n with
    | some (.lst xs) => (atD xs i).map fun d => (d, S)
    | some (.fz xs) => (atD xs i).map fun d => (d, S)
    | some (.dK kvs) => (dGet kvs (Sum.inl i)).map fun d => (d, S)
    | some (.fd kvs) => (dGet kvs (Sum.inl i)).map fun d => (d, S)
    | _ => none
  | .loc n, .str z => match S.get n with
    | some (.dK kvs) => (dGet kvs (Sum.inr z)).map fun d => (d, S)
    | some (.fd kvs) => (dGet kvs (Sum.inr z)).map fun d => (d, S)
    | _ => none
  | .str z, .int i => match Nat.ble z.length sizeLine with
    | true => (atD z.cps.toList i).map fun c => (.str ⟨#[c]⟩, S)
    | false => none
  | _, _ => none
theorem atI_D {K : PySem.W.Frag} {m : List Addr} {H : Hp} {xs : List D} {vs : List V} {i : Int} {d : D} (r : RDs K m H xs vs) (e : atD xs i = some d) : ∃ v, atI vs i = some v ∧ RD K m H d v := by
  unfold atD at e
  unfold atI
  rw [r.length] at e
  cases h : ixN vs.length i with
  | none => rw [h] at e; cases e
  | some j =>
    rw [h] at e
    exact r.get e
theorem RKs.val {κ : Type} [DecidableEq κ] {K : PySem.W.Frag} {m : List Addr} {H : Hp} {k : κ} : ∀ {kvs : List (κ × D)} {vs : List (κ × V)}, RKs K m H kvs vs → (dGet kvs k = none ∧ valV vs k = none) ∨ ∃ d v, dGet kvs k = some d ∧ valV vs k = some v ∧ RD K m H d v
  | [], vs, h => by simp only [RKs] at h; subst h; exact .inl ⟨rfl, rfl⟩
  | p :: kvs, vs, h => by
    simp only [RKs] at h
    obtain ⟨v, r, rfl, rd, rr⟩ := h
    by_cases e : p.1 = k
    · exact .inr ⟨p.2, v, by simp [dGet, List.find?_cons, e], valV_pos e, rd⟩
    · have h1 : dGet (p :: kvs) k = dGet kvs k := by simp [dGet, List.find?_cons, e]
      rw [h1, valV_neg e]
      exact RKs.val rr
theorem ix_read {K : PySem.W.Frag} {m : List Addr} {S S' : Sto} {H : Hp} {d1 d2 d : D} {x y : V} {Q : VK} (rs : RS K m S H) (r1 : RD K m H d1 x) (r2 : RD K m H d2 y) (e : fIx d1 d2 S = some (d, S')) (nk : ∀ n o, d1 = .loc n → S.get n = some o → ((∃ kvs, o = .dK kvs) ∨ ∃ kvs, o = .fd kvs) → False)
    (fin : ∀ m' H' v, Ext m H m' H' → RS K m' S' H' → RD K m' H' d v → Q v H') : rIx K x y H Q := by
  unfold fIx at e
  split at e
  · rename_i xs i
    cases ea : atD xs i with
    | none => rw [ea] at e; cases e
    | some dd =>
      rw [ea] at e
      cases e
      simp only [RD] at r1 r2
      obtain ⟨a', vs, rfl, hq, rr⟩ := r1
      obtain ⟨v, ev, rv⟩ := atI_D rr ea
      exact .inr (.inl ⟨a', vs, i, v, rfl, r2, hq, ev, fin m H v (.refl _ _) rs rv⟩)
  · rename_i n i
    have go : ∀ xs, lstAt S n = some xs → (atD xs i).map (fun d => (d, S)) = some (d, S') → rIx K x y H Q := fun xs el e => by
      cases ea : atD xs i with
      | none => rw [ea] at e; cases e
      | some dd =>
        rw [ea] at e
        cases e
        simp only [RD] at r1 r2
        obtain ⟨a', rfl, hm⟩ := r1
        obtain ⟨vs, hq, rr⟩ := rs.lst hm el
        obtain ⟨v, ev, rv⟩ := atI_D rr ea
        exact .inl ⟨a', vs, i, v, rfl, r2, hq, ev, fin m H v (.refl _ _) rs rv⟩
    split at e
    · rename_i xs eg; exact go xs (by simp only [lstAt, eg]) e
    · rename_i xs eg; exact go xs (by simp only [lstAt, eg]) e
    · rename_i kvs eg; exact (nk n _ rfl eg (.inl ⟨kvs, rfl⟩)).elim
    · rename_i kvs eg; exact (nk n _ rfl eg (.inr ⟨kvs, rfl⟩)).elim
    · cases e
  · rename_i n z
    split at e
    · rename_i kvs eg; exact (nk n _ rfl eg (.inl ⟨kvs, rfl⟩)).elim
    · rename_i kvs eg; exact (nk n _ rfl eg (.inr ⟨kvs, rfl⟩)).elim
    · cases e
  · rename_i z i
    split at e
    · rename_i hl
      cases ea : atD z.cps.toList i with
      | none => rw [ea] at e; cases e
      | some c =>
        rw [ea] at e
        cases e
        simp only [RD] at r1 r2
        exact .inr (.inr ⟨z, i, c, r1, r2, Nat.le_of_ble_eq_true hl, ea, fin m H _ (.refl _ _) rs (by simp only [RD])⟩)
    · cases e
  · cases e
section
variable {X : Cx} {a b : Expr} {f g : Env → M D} {pos : Pos}
theorem q_ix {k : Nat} (hr : Rm k X.A) (ha : QE X a f) (hb : QE X b g) (hs : PlainIx b := by exact fun _ _ => rfl) (hn : NoSl b := by exact fun _ _ => rfl) : QE X (.Subscript a b pos) (e2 fIx f g) := ⟨fun W tk m S σ σv H P rs re p => by
  cases e1 : f σ S with
  | bad => unfold e2 bnd at p; rw [e1] at p; exact p.elim
  | exc x S1 => exact wE.of (pe_ix (ix_seq (X := X)) (pw a) (pw b) hs) ((ha.run W tk m S σ σv H (fun _ _ _ _ => False) rs re (by unfold e2 bnd at p; rw [e1] at p ⊢; exact p)).mono fun v H' ⟨_, _, _, _, _, _, z⟩ => z.elim)
  | ok d1 S1 =>
    cases e2' : g σ S1 with
    | bad => unfold e2 bnd at p; simp only [e1, e2'] at p; exact p.elim
    | exc x S2 =>
      refine wE.of (pe_ix (ix_seq (X := X)) (pw a) (pw b) hs) ?_
      refine (ha.run W tk m S σ σv H (fun d S' m' H' => S' = S1 ∧ PostG X.K X.mg m' H' (g σ S1) (fun _ _ _ _ => False) (fun c d H' => W c d σv H')) rs re ?_).mono ?_
      · rw [e1]
        intro m' H' x' rs'
        refine ⟨rfl, ?_⟩
        rw [e2']
        unfold e2 bnd at p
        simp only [e1, e2'] at p
        exact PostG.ext p x'
      · rintro v H1 ⟨d, S', m1, rs1, rd, x1, rfl, q⟩
        exact (hb.run W tk m1 S' σ σv H1 _ rs1 (re.mono x1) q).mono fun v H' ⟨_, _, _, _, _, _, z⟩ => z.elim
    | ok d2 S2 =>
      have p2 := two (h := fIx) ha hb tk rs re p
      have pe : ∃ d S', fIx d1 d2 S2 = some (d, S') := by
        unfold e2 bnd up at p
        simp only [e1, e2'] at p
        cases h : fIx d1 d2 S2 with
        | none => rw [h] at p; exact p.elim
        | some q => exact ⟨q.1, q.2, rfl⟩
      -- which kind it is, by the values
      have key : (∃ n o, d1 = .loc n ∧ S2.get n = some o ∧ ((∃ kvs, o = .dK kvs) ∨ ∃ kvs, o = .fd kvs)) ∨ ¬ (∃ n o, d1 = .loc n ∧ S2.get n = some o ∧ ((∃ kvs, o = .dK kvs) ∨ ∃ kvs, o = .fd kvs)) := Classical.em _
      have q2 : wE X a σv H fun x H1 => wE X b σv H1 fun y H2 => ∃ m2, RS X.K m2 S2 H2 ∧ RD X.K m2 H2 d1 x ∧ RD X.K m2 H2 d2 y ∧ ∃ d S', fIx d1 d2 S2 = some (d, S') ∧ ∀ m' H' v, Ext m2 H2 m' H' → RS X.K m' S' H' → RD X.K m' H' d v → GV X.K m H P v H' := by
        refine (ha.run W tk m S σ σv H (fun d S' m' H' => d = d1 ∧ S' = S1) rs re (by rw [e1]; exact fun _ _ _ _ => ⟨rfl, rfl⟩)).mono ?_
        rintro x H1 ⟨_, _, m1, rs1, r1, x1, rfl, rfl⟩
        refine (hb.run W tk m1 _ σ σv H1 (fun d S' m' H' => d = d2 ∧ S' = S2) rs1 (re.mono x1) (by rw [e2']; exact fun _ _ _ _ => ⟨rfl, rfl⟩)).mono ?_
        rintro y H2 ⟨_, _, m2, rs2, r2, x2, rfl, rfl⟩
        obtain ⟨d, S', e⟩ := pe
        refine ⟨m2, rs2, RD.mono x2 _ _ r1, r2, d, S', e, fun m' H' v x' rs' rv => ⟨d, S', m', rs', rv, (x1.trans x2).trans x', ?_⟩⟩
        unfold e2 bnd up at p
        simp only [e1, e2', e] at p
        exact p m' H' ((x1.trans x2).trans x') rs'
      rcases key with ⟨n, o, rfl, en, ho⟩ | nk
      · refine wE.of (pe_dget (hu_of hr.toRoom) (pw a) (pw b) hn) (q2.mono fun x H1 h => wE.mono h fun y H2 ⟨m2, rs2, r1, r2, d, S', e, fin⟩ => ?_)
        simp only [RD] at r1
        obtain ⟨a', rfl, hm⟩ := r1
        have rd : ∃ kvs vs, Rd H2 a' (.dK vs) ∧ RKs X.K m2 H2 kvs vs ∧ (S2.get n = some (.dK kvs) ∨ S2.get n = some (.fd kvs)) := by
          rcases ho with ⟨kvs, rfl⟩ | ⟨kvs, rfl⟩
          · obtain ⟨vs, h1, h2⟩ := rs2.obj hm en; exact ⟨kvs, vs, .inl h1, h2, .inl en⟩
          · obtain ⟨ob, vs, h1, h2⟩ := rs2.obj hm en; exact ⟨kvs, vs, .inr ⟨ob, h1⟩, h2, .inr en⟩
        obtain ⟨kvs, vs, hR, hK, hg⟩ := rd
        have fi : ∀ key : Key, y = kV key → fIx (.loc n) d2 S2 = (dGet kvs key).map (fun d => (d, S2)) → ∃ a v, V.ref a' = .ref a ∧ DGet H2 a y (some v) ∧ GV X.K m H P v H2 := fun key ey ef => by
          rw [ef] at e
          rcases RKs.val (k := key) hK with ⟨z, _⟩ | ⟨dd, v, h1, h2, h3⟩
          · rw [z] at e; cases e
          · rw [h1] at e
            cases e
            exact ⟨a', v, rfl, .inl ⟨vs, key, hR, ey, h2.symm⟩, fin m2 H2 v (.refl _ _) rs2 h3⟩
        cases d2 with
        | int i =>
          simp only [RD] at r2
          refine fi (Sum.inl i) r2 ?_
          rcases hg with hg | hg <;> simp only [fIx, hg]
        | str z =>
          simp only [RD] at r2
          refine fi (Sum.inr z) r2 ?_
          rcases hg with hg | hg <;> simp only [fIx, hg]
        | _ => simp only [fIx] at e; cases e
      · exact wE.of (pe_ix (ix_seq (X := X)) (pw a) (pw b) hs) (q2.mono fun x H1 h => wE.mono h fun y H2 ⟨m2, rs2, r1, r2, d, S', e, fin⟩ => ix_read rs2 r1 r2 e (fun n o z1 z2 z3 => nk ⟨n, o, z1, z2, z3⟩) fin)⟩
end
end L2.Z

set_option Elab.async false
set_option linter.all false
set_option maxRecDepth 100000
set_option maxHeartbeats 4000000
/-! Z9: slices, isinstance, built-ins, methods of lists, stores to items, dict displays. -/
namespace L2.Z
open PySem PySem.Spec PyProof.Rows
variable [HasT]

/-! ### slices -/
def cutD {α : Type} (xs : List α) (lo hi : Option Int) : List α := (xs.drop (HT.sIx xs.length 0 lo)).take (HT.sIx xs.length xs.length hi - HT.sIx xs.length 0 lo)
def fSl (x : D) (lo hi : Option Int) : Sto → Option (D × Sto) := fun S => match x with
  | .tup xs => some (.tup (cutD xs lo hi), S)
  | .loc n => match S.get n with
    | some (.lst xs) => some (.loc S.n, S.push (.lst (cutD xs lo hi)))
    | some (.fz xs) => some (.loc S.n, S.push (.lst (cutD xs lo hi)))
    | _ => none
  | .str z => match Nat.ble z.length sizeLine with
    | true => some (.str (cutS z lo hi), S)
    | false => none
  | _ => none
theorem RDs.drop {K : PySem.W.Frag} {m : List Addr} {H : Hp} : ∀ {ds : List D} {vs : List V} (n : Nat), RDs K m H ds vs → RDs K m H (ds.drop n) (vs.drop n)
  | ds, vs, 0, h => h
  | [], vs, n + 1, h => by simp only [RDs] at h; subst h; simp only [List.drop_nil, RDs]
  | d :: ds, vs, n + 1, h => by
    simp only [RDs] at h
    obtain ⟨v, r, rfl, _, t⟩ := h
    exact RDs.drop n t
theorem RDs.take {K : PySem.W.Frag} {m : List Addr} {H : Hp} : ∀ {ds : List D} {vs : List V} (n : Nat), RDs K m H ds vs → RDs K m H (ds.take n) (vs.take n)
  | ds, vs, 0, h => by simp only [List.take_zero, RDs]
  | [], vs, n + 1, h => by simp only [RDs] at h; subst h; simp only [List.take_nil, RDs]
  | d :: ds, vs, n + 1, h => by
    simp only [RDs] at h
    obtain ⟨v, r, rfl, q, t⟩ := h
    simp only [List.take_succ_cons, RDs]
    exact ⟨v, r.take n, rfl, q, RDs.take n t⟩
theorem RDs.cut {K : PySem.W.Frag} {m : List Addr} {H : Hp} {ds : List D} {vs : List V} (h : RDs K m H ds vs) (lo hi : Option Int) : RDs K m H (cutD ds lo hi) (cutV vs lo hi) := by
  unfold cutD cutV
  rw [h.length]
  exact (h.drop _).take _
theorem cutD_whole {α : Type} {xs : List α} {lo hi : Option Int} (h : HT.sIx xs.length 0 lo = 0 ∧ HT.sIx xs.length xs.length hi = xs.length) : cutD xs lo hi = xs := by
  unfold cutD
  rw [h.1, h.2]
  simp
abbrev OE := Option (Env → M D)
def oM (o : OE) (σ : Env) : M (Option Int) := match o with
  | none => ret none
  | some g => bnd (g σ) fun d => match d with
    | .int i => ret (some i)
    | _ => bad
def eSl (f : Env → M D) (lo hi : OE) : Env → M D := fun σ => bnd (f σ) fun x => bnd (oM lo σ) fun l => bnd (oM hi σ) fun h => up (fSl x l h)
/-- an optional part -/
def QO (X : Cx) (e : Option Expr) (o : OE) : Prop := match e, o with
  | none, none => True
  | some e, some g => QE X e g
  | _, _ => False
section
variable {X : Cx} {e : Expr} {lo hi : Option Expr} {f : Env → M D} {ol oh : OE} {pos p2 : Pos}
theorem qo_none : QO X none none := trivial
theorem qo_some {g : Env → M D} (h : QE X e g) : QO X (some e) (some g) := h
def wO (X : Cx) (e : Option Expr) (σ : St) (H : Hp) (Q : Option Int → Hp → Prop) : Prop := ∀ pins s, Inv X pins σ H s → wpAny (model X.prog X.w) X.A (evalPart e X.env) (fun u s' => ∃ o H', Inv X pins σ H' s' ∧ IsPart u o ∧ Q o H') X.xe s
theorem pow_ (e : Option Expr) : PO X e (wO X e) := ⟨fun pins s σ H Q I h => h pins s I⟩
theorem qo_run (h : QO X lo ol) {W : WX} (tk : Takes X W) {m : List Addr} {S : Sto} {σ : Env} {σv : St} {H : Hp} {P : Option Int → Sto → List Addr → Hp → Prop} (rs : RS X.K m S H) (re : RE X.K m H σ σv) (p : PostG X.K X.mg m H (oM ol σ S) P (fun c d H' => W c d σv H')) :
    wO X lo σv H (fun o H' => ∃ S' m', RS X.K m' S' H' ∧ Ext m H m' H' ∧ P o S' m' H') := by
  cases lo with
  | none =>
    cases ol with
    | none => exact fun pins s I => po_none.run pins s σv H _ I ⟨S, m, rs, .refl _ _, p m H (.refl _ _) rs⟩
    | some g => exact h.elim
  | some e =>
    cases ol with
    | none => exact h.elim
    | some g =>
      have h : QE X e g := h
      intro pins s I
      refine (po_some (pw e)).run pins s σv H _ I ?_
      refine (h.run W tk m S σ σv H _ rs re (PostG.bnd p)).mono ?_
      rintro v H1 ⟨d, S1, m1, rs1, r1, x1, q1⟩
      cases d with
      | int i =>
        simp only [RD] at r1
        exact ⟨i, r1, S1, m1, rs1, x1, q1 m1 H1 (.refl _ _) rs1⟩
      | _ => exact q1.elim
theorem q_slice (he : QE X e f) (hl : QO X lo ol) (hh : QO X hi oh) : QE X (.Subscript e (.Slice lo hi none p2) pos) (eSl f ol oh) := ⟨fun W tk m S σ σv H P rs re p => by
  refine wE.of (pe_slice (SlR.or sl_tupA (SlR.or sl_list sl_str)) (pw e) (pow_ lo) (pow_ hi)) ?_
  refine (he.run W tk m S σ σv H _ rs re p.bnd).mono ?_
  rintro x H1 ⟨d1, S1, m1, rs1, r1, x1, q1⟩
  intro pins s I
  refine thn (qo_run hl tk rs1 (re.mono x1) q1.bnd pins s I) ?_
  rintro u s2 ⟨l, H2, I2, il, S2, m2, rs2, x2, q2⟩
  refine ⟨l, H2, I2, il, ?_⟩
  intro pins s I
  refine thn (qo_run hh tk rs2 ((re.mono x1).mono x2) q2.bnd pins s I) ?_
  rintro u s3 ⟨h, H3, I3, ih, S3, m3, rs3, x3, q3⟩
  refine ⟨h, H3, I3, ih, ?_⟩
  obtain ⟨d, S', e', fin⟩ := q3.up
  have r3 := RD.mono (x2.trans x3) _ _ r1
  have fin' : ∀ m' H' v, Ext m3 H3 m' H' → RS X.K m' S' H' → RD X.K m' H' d v → GV X.K m H P v H' := fun m' H' v x' rs' rv => ⟨d, S', m', rs', rv, ((x1.trans x2).trans x3).trans x', fin m' H' x' rs'⟩
  have lst : ∀ n xs, d1 = .loc n → lstAt S3 n = some xs → d = .loc S3.n → S' = S3.push (.lst (cutD xs l h)) → rSlL X.K x l h H3 (GV X.K m H P) := fun n xs e1 e2 e3 e4 => by
    subst e1 e3 e4
    simp only [RD] at r3
    obtain ⟨a, rfl, hm⟩ := r3
    obtain ⟨vs, hq, rr⟩ := rs3.lst hm e2
    exact ⟨a, vs, rfl, hq, newLst rs3 (rr.cut l h) fin'⟩
  unfold fSl at e'
  split at e'
  · cases e'
    simp only [RD] at r3
    obtain ⟨a, vs, rfl, hq, rr⟩ := r3
    refine .inl ⟨a, vs, rfl, hq, fun hw => ?_, fun _ => newTup rs3 (rr.cut l h) fin'⟩
    refine fin' m3 H3 _ (.refl _ _) rs3 ?_
    rw [← rr.length] at hw
    rw [cutD_whole hw]
    simp only [RD]
    exact ⟨a, vs, rfl, hq, rr⟩
  · rename_i n
    split at e'
    · rename_i xs eg; cases e'; exact .inr (.inl (lst n xs rfl (by simp only [lstAt, eg]) rfl rfl))
    · rename_i xs eg; cases e'; exact .inr (.inl (lst n xs rfl (by simp only [lstAt, eg]) rfl rfl))
    · cases e'
  · split at e'
    · rename_i hz
      cases e'
      simp only [RD] at r3
      exact .inr (.inr ⟨_, r3, Nat.le_of_ble_eq_true hz, fin' m3 H3 _ (.refl _ _) rs3 (by simp only [RD])⟩)
    · cases e'
  · cases e'⟩
end

/-! ### isinstance(x, T) -/
inductive Ty where
  | int | bool | str | tuple | list | dict
  deriving DecidableEq
def Ty.nm : Ty → String
  | .int => "int" | .bool => "bool" | .str => "str" | .tuple => "tuple" | .list => "list" | .dict => "dict"
def isT (T : Ty) (d : D) (S : Sto) : Option Bool := match d with
  | .non => some false
  | .bl _ => some (match T with | .int => true | .bool => true | _ => false)
  | .int _ => some (match T with | .int => true | _ => false)
  | .str _ => some (match T with | .str => true | _ => false)
  | .tup _ => some (match T with | .tuple => true | _ => false)
  | .loc n => match S.get n with
    | some (.lst _) => some (match T with | .list => true | _ => false)
    | some (.fz _) => some (match T with | .list => true | _ => false)
    | some (.dK _) => some (match T with | .dict => true | _ => false)
    | some (.dT _) => none
    | some (.fd _) => some (match T with | .dict => true | _ => false)
    | none => none
  | .xc _ _ _ => none
  | .lam _ _ _ _ _ => none
  | .scr _ => none
  | .xtp _ => none
  | .adr _ => none
def fIsi (T : Ty) : F1 := fun d S => match isT T d S with
  | some b => some (.bl b, S)
  | none => none
theorem kit_tab : ∀ (T : Ty), kitB "NoneType" T.nm = some false ∧ kitB "bool" T.nm = some (match T with | .int => true | .bool => true | _ => false) ∧ kitB "int" T.nm = some (match T with | .int => true | _ => false) ∧ kitB "str" T.nm = some (match T with | .str => true | _ => false) ∧
    kitB "tuple" T.nm = some (match T with | .tuple => true | _ => false) ∧ kitB "list" T.nm = some (match T with | .list => true | _ => false) ∧ kitB "dict" T.nm = some (match T with | .dict => true | _ => false) := by
  intro T
  cases T <;> decide +kernel
theorem sqT_ty {K : PySem.W.Frag} {H : Hp} {a : Addr} {vs : List V} (h : SqT K H a vs) : TyX K H (.ref a) (.type "tuple") := by
  rcases h with (h | ⟨o, h⟩) | ⟨o, its, n, h1, h2, _⟩
  · exact .base (.tup h)
  · exact .fTuple h
  · exact .kTuple h1 h2
theorem isT_ok {K : PySem.W.Frag} {m : List Addr} {S : Sto} {H : Hp} (rs : RS K m S H) {T : Ty} {d : D} {v : V} {b : Bool} (r : RD K m H d v) (e : isT T d S = some b) : ∃ t, TyX K H v t ∧ PySem.W.kitOne K t (.type T.nm) = some b := by
  obtain ⟨k1, k2, k3, k4, k5, k6, k7⟩ := kit_tab T
  unfold isT at e
  split at e
  · cases e; simp only [RD] at r; subst r; exact ⟨_, .base .non, kit_ty k1⟩
  · cases e; simp only [RD] at r; subst r; exact ⟨_, .base (.bl _), kit_ty k2⟩
  · cases e; simp only [RD] at r; subst r; exact ⟨_, .base (.int _), kit_ty k3⟩
  · cases e; simp only [RD] at r; subst r; exact ⟨_, .base (.str _), kit_ty k4⟩
  · cases e; simp only [RD] at r; obtain ⟨a, vs, rfl, hq, _⟩ := r; exact ⟨_, sqT_ty hq, kit_ty k5⟩
  · rename_i n
    simp only [RD] at r
    obtain ⟨a, rfl, hm⟩ := r
    split at e
    · rename_i xs eg; cases e; obtain ⟨vs, h, _⟩ := rs.obj hm eg; exact ⟨_, .base (.lst h), kit_ty k6⟩
    · rename_i xs eg; cases e; obtain ⟨ob, vs, h, _⟩ := rs.obj hm eg; exact ⟨_, .base (.frz h), kit_ty k6⟩
    · rename_i xs eg; cases e; obtain ⟨vs, h, _⟩ := rs.obj hm eg; exact ⟨_, .base (.dK h), kit_ty k7⟩
    · cases e
    · rename_i xs eg; cases e; obtain ⟨ob, vs, h, _⟩ := rs.obj hm eg; exact ⟨_, .fDict h, kit_ty k7⟩
    · cases e
  · cases e
  · cases e
  · cases e
  · cases e
  · cases e
section
variable {X : Cx} {e : Expr} {f : Env → M D} {p p1 pos : Pos} {x : Str}
theorem q_isi (T : Ty) (hm : X.mg "isinstance" = none) (hmT : X.mg x = none) (hv : bootBuiltins x = some (.type T.nm)) (ha : QE X e f) (hg : glB X.env.scope "isinstance" = true := by kernel_rfl) (hgx : glB X.env.scope x = true := by kernel_rfl)
    (hs : PySem.W.isStarred e = false := by rfl) : QE X (.Call (.Name "isinstance" p) [e, .Name x p1] [] pos) (e1 (fIsi T) f) := ⟨fun W tk m S σ σv H P rs re q => by
  refine wE.of (pe_callB call_isi (glB_ok hg).1 hm boot_isinstance (pa_cons (pw e) (pa_cons (pe_bltn (v := .ty T.nm) (glB_ok hgx).1 hmT hv rfl (glB_ok hgx).2.2 (glB_ok hgx).2.1) pa_nil) (star1 hs)) (glB_ok hg).2.2 (glB_ok hg).2.1 (star1 hs) rfl) ?_
  refine (one (h := fIsi T) ha tk rs re q).mono ?_
  rintro v H1 ⟨m1, S1, d1, d, S', rs1, r1, e', fin⟩
  unfold fIsi at e'
  split at e'
  · rename_i b eb
    cases e'
    obtain ⟨t, ht, hk⟩ := isT_ok rs1 r1 eb
    exact ⟨v, .ty T.nm, t, .type T.nm, b, rfl, .ty _, ht, hk, fin m1 H1 _ (.refl _ _) rs1 (by simp only [RD])⟩
  · cases e'⟩
end

/-! ### built-ins by values -/
def lenD (d : D) (S : Sto) : Option Nat := match d with
  | .tup xs => some xs.length
  | .str z => match Nat.ble z.length sizeLine with
    | true => some z.length
    | false => none
  | .loc n => match S.get n with
    | some (.lst xs) => some xs.length
    | some (.fz xs) => some xs.length
    | some (.dK kvs) => some kvs.length
    | _ => none
  | .scr ns => some ns.length
  | _ => none
def fLen : FL := fun ds S => match ds with
  | [d] => (lenD d S).map fun n => (.int (n : Nat), S)
  | _ => none
def fInt : FL := fun ds S => match ds with
  | [.int i] => some (.int i, S)
  | [.bl k] => some (.int (if k then 1 else 0), S)
  | _ => none
def fList : FL := fun ds S => match ds with
  | [.tup xs] => some (.loc S.n, S.push (.lst xs))
  | [.loc n] => match lstAt S n with
    | some xs => some (.loc S.n, S.push (.lst xs))
    | none => none
  | [.scr ns] => some (.loc S.n, S.push (.lst (ns.map .int)))
  | _ => none
theorem RDs.ints {K : PySem.W.Frag} {m : List Addr} {H : Hp} : ∀ ns : List Int, RDs K m H (ns.map D.int) (ns.map V.int)
  | [] => by simp only [List.map_nil, RDs]
  | n :: ns => by simp only [List.map_cons, RDs, RD]; exact ⟨_, _, rfl, rfl, RDs.ints ns⟩
def fTuple : FL := fun ds S => match ds with
  | [.tup xs] => some (.tup xs, S)
  | [.loc n] => match lstAt S n with
    | some xs => some (.tup xs, S)
    | none => none
  | _ => none
def blsOf : List D → Option (List Bool)
  | [] => some []
  | .bl b :: ds => (blsOf ds).map (b :: ·)
  | _ => none
def intsOf : List D → Option (List Int)
  | [] => some []
  | .int i :: ds => (intsOf ds).map (i :: ·)
  | _ => none
def onLst (g : List D → Option D) : FL := fun ds S => match ds with
  | [.loc n] => match lstAt S n with
    | some xs => (g xs).map fun d => (d, S)
    | none => none
  | _ => none
def fAll : FL := onLst fun xs => (blsOf xs).map fun bs => .bl (bs.all id)
def fAny : FL := onLst fun xs => (blsOf xs).map fun bs => .bl (bs.any id)
def fSum : FL := onLst fun xs => (intsOf xs).map fun is => .int is.sum
def maxI : List Int → Option Int
  | [] => none
  | i :: is => some (is.foldl (fun a b => if a < b then b else a) i)
def minI : List Int → Option Int
  | [] => none
  | i :: is => some (is.foldl (fun a b => if b < a then b else a) i)
def fMax1 : FL := onLst fun xs => ((intsOf xs).bind maxI).map .int
def fMin1 : FL := onLst fun xs => ((intsOf xs).bind minI).map .int
def fMax2 : FL := fun ds S => match ds with
  | [.int i, .int j] => some (.int (if j > i then j else i), S)
  | _ => none
def fMin2 : FL := fun ds S => match ds with
  | [.int i, .int j] => some (.int (if j < i then j else i), S)
  | _ => none
def fAbs : FL := fun ds S => match ds with
  | [.int i] => some (.int (if i < 0 then -i else i), S)
  | _ => none
theorem blsOf_V {K : PySem.W.Frag} {m : List Addr} {H : Hp} : ∀ {ds : List D} {vs : List V} {bs : List Bool}, RDs K m H ds vs → blsOf ds = some bs → vs = bs.map V.bl
  | [], vs, bs, r, e => by simp only [RDs] at r; cases e; exact r
  | .bl b :: ds, vs, bs, r, e => by
    simp only [RDs, RD] at r
    obtain ⟨v, r', rfl, rfl, t⟩ := r
    cases h : blsOf ds with
    | none => simp only [blsOf, h] at e; cases e
    | some cs =>
      simp only [blsOf, h, Option.map_some, Option.some.injEq] at e
      subst e
      rw [blsOf_V t h]
      rfl
  | .non :: _, _, _, _, e => by cases e
  | .int _ :: _, _, _, _, e => by cases e
  | .str _ :: _, _, _, _, e => by cases e
  | .tup _ :: _, _, _, _, e => by cases e
  | .loc _ :: _, _, _, _, e => by cases e
  | .xc _ _ _ :: _, _, _, _, e => by cases e
  | .lam _ _ _ _ _ :: _, _, _, _, e => by cases e
  | .scr _ :: _, _, _, _, e => by cases e
  | .xtp _ :: _, _, _, _, e => by cases e
  | .adr _ :: _, _, _, _, e => by cases e
theorem intsOf_V {K : PySem.W.Frag} {m : List Addr} {H : Hp} : ∀ {ds : List D} {vs : List V} {bs : List Int}, RDs K m H ds vs → intsOf ds = some bs → vs = bs.map V.int
  | [], vs, bs, r, e => by simp only [RDs] at r; cases e; exact r
  | .int b :: ds, vs, bs, r, e => by
    simp only [RDs, RD] at r
    obtain ⟨v, r', rfl, rfl, t⟩ := r
    cases h : intsOf ds with
    | none => simp only [intsOf, h] at e; cases e
    | some cs =>
      simp only [intsOf, h, Option.map_some, Option.some.injEq] at e
      subst e
      rw [intsOf_V t h]
      rfl
  | .non :: _, _, _, _, e => by cases e
  | .bl _ :: _, _, _, _, e => by cases e
  | .str _ :: _, _, _, _, e => by cases e
  | .tup _ :: _, _, _, _, e => by cases e
  | .loc _ :: _, _, _, _, e => by cases e
  | .xc _ _ _ :: _, _, _, _, e => by cases e
  | .lam _ _ _ _ _ :: _, _, _, _, e => by cases e
  | .scr _ :: _, _, _, _, e => by cases e
  | .xtp _ :: _, _, _, _, e => by cases e
  | .adr _ :: _, _, _, _, e => by cases e
theorem onLst_some {g : List D → Option D} {ds : List D} {S S' : Sto} {d : D} (h : onLst g ds S = some (d, S')) : ∃ n xs, ds = [.loc n] ∧ lstAt S n = some xs ∧ g xs = some d ∧ S' = S := by
  unfold onLst at h
  split at h
  · rename_i n
    split at h
    · rename_i xs el
      cases e : g xs with
      | none => rw [e] at h; cases h
      | some d' => rw [e] at h; cases h; exact ⟨n, xs, rfl, el, e, rfl⟩
    · cases h
  · cases h
theorem maxI_is : ∀ (is : List Int) (i : Int), (is.foldl (fun a b => if a < b then b else a) i) ∈ i :: is ∧ ∀ y ∈ i :: is, y ≤ is.foldl (fun a b => if a < b then b else a) i
  | [], i => ⟨by simp, by simp⟩
  | j :: is, i => by
    obtain ⟨h1, h2⟩ := maxI_is is (if i < j then j else i)
    rw [List.foldl_cons]
    refine ⟨?_, fun y hy => ?_⟩
    · rcases List.mem_cons.mp h1 with e | e
      · rw [e]; split <;> simp
      · simp [e]
    · have h3 := h2 _ List.mem_cons_self
      rcases List.mem_cons.mp hy with rfl | hy
      · exact Int.le_trans (by split <;> omega) h3
      · rcases List.mem_cons.mp hy with rfl | hy
        · exact Int.le_trans (by split <;> omega) h3
        · exact h2 y (List.mem_cons_of_mem _ hy)
theorem minI_is : ∀ (is : List Int) (i : Int), (is.foldl (fun a b => if b < a then b else a) i) ∈ i :: is ∧ ∀ y ∈ i :: is, is.foldl (fun a b => if b < a then b else a) i ≤ y
  | [], i => ⟨by simp, by simp⟩
  | j :: is, i => by
    obtain ⟨h1, h2⟩ := minI_is is (if j < i then j else i)
    rw [List.foldl_cons]
    refine ⟨?_, fun y hy => ?_⟩
    · rcases List.mem_cons.mp h1 with e | e
      · rw [e]; split <;> simp
      · simp [e]
    · have h3 := h2 _ List.mem_cons_self
      rcases List.mem_cons.mp hy with rfl | hy
      · exact Int.le_trans h3 (by split <;> omega)
      · rcases List.mem_cons.mp hy with rfl | hy
        · exact Int.le_trans h3 (by split <;> omega)
        · exact h2 y (List.mem_cons_of_mem _ hy)
section
variable {X : Cx}
theorem c_len : CallR X (.builtin "len") (rFL X.K fLen) := by
  intro pins s σ H xs us Q I r h
  obtain ⟨m, S, ds, d, S', rs, rr, e, fin⟩ := h
  unfold fLen at e
  split at e
  · rename_i d0
    simp only [RDs] at rr
    obtain ⟨v, r', rfl, rd, rfl⟩ := rr
    cases el : lenD d0 S with
    | none => rw [el] at e; cases e
    | some n =>
      rw [el] at e
      cases e
      have fi := fin m H (.int (n : Nat)) (.refl _ _) rs (by simp only [RD])
      unfold lenD at el
      split at el
      · cases el
        simp only [RD] at rd
        obtain ⟨a, vs, rfl, hq, t⟩ := rd
        exact call_len_seq pins s σ H _ us Q I r ⟨a, vs, rfl, .inr hq, by rw [← t.length]; exact fi⟩
      · split at el
        · rename_i hz
          cases el
          simp only [RD] at rd
          subst rd
          exact call_len_str pins s σ H _ us Q I r ⟨_, rfl, Nat.le_of_ble_eq_true hz, fi⟩
        · cases el
      · rename_i k
        simp only [RD] at rd
        obtain ⟨a, rfl, hm⟩ := rd
        split at el
        · rename_i xs eg; cases el; obtain ⟨vs, h1, t⟩ := rs.obj hm eg; exact call_len_seq pins s σ H _ us Q I r ⟨a, vs, rfl, .inl (SqL.of h1), by rw [← t.length]; exact fi⟩
        · rename_i xs eg; cases el; obtain ⟨ob, vs, h1, t⟩ := rs.obj hm eg; exact call_len_seq pins s σ H _ us Q I r ⟨a, vs, rfl, .inl (.inl (.inr ⟨ob, h1⟩)), by rw [← t.length]; exact fi⟩
        · rename_i xs eg; cases el; obtain ⟨vs, h1, t⟩ := rs.obj hm eg; exact call_lenD pins s σ H _ us Q I r ⟨a, vs, rfl, h1, by rw [← t.length]; exact fi⟩
        · cases el
      · cases el
        simp only [RD] at rd
        obtain ⟨a, rfl, q⟩ := rd
        exact call_len_seq pins s σ H _ us Q I r ⟨a, _, rfl, .inl q.sq, by rw [List.length_map]; exact fi⟩
      · cases el
  · cases e
theorem c_int : CallR X (.type "int") (rFL X.K fInt) := by
  intro pins s σ H xs us Q I r h
  obtain ⟨m, S, ds, d, S', rs, rr, e, fin⟩ := h
  unfold fInt at e
  split at e
  · cases e
    simp only [RDs, RD] at rr
    obtain ⟨v, r', rfl, rfl, rfl⟩ := rr
    exact call_int1 pins s σ H _ us Q I r (.inl ⟨_, rfl, fin m H _ (.refl _ _) rs (by simp only [RD])⟩)
  · cases e
    simp only [RDs, RD] at rr
    obtain ⟨v, r', rfl, rfl, rfl⟩ := rr
    exact call_int1 pins s σ H _ us Q I r (.inr ⟨_, rfl, fin m H _ (.refl _ _) rs (by simp only [RD])⟩)
  · cases e
theorem c_list : CallR X (.type "list") (rFL X.K fList) := by
  intro pins s σ H xs us Q I r h
  obtain ⟨m, S, ds, d, S', rs, rr, e, fin⟩ := h
  unfold fList at e
  split at e
  · cases e
    simp only [RDs, RD] at rr
    obtain ⟨v, r', rfl, ⟨a, vs, rfl, hq, t⟩, rfl⟩ := rr
    exact call_list_of pins s σ H _ us Q I r ⟨a, vs, rfl, .inr hq, newLst rs t fin⟩
  · split at e
    · rename_i ys el
      cases e
      simp only [RDs, RD] at rr
      obtain ⟨v, r', rfl, ⟨a, rfl, hm⟩, rfl⟩ := rr
      obtain ⟨vs, hq, t⟩ := rs.lst hm el
      exact call_list_of pins s σ H _ us Q I r ⟨a, vs, rfl, .inl hq, newLst rs t fin⟩
    · cases e
  · cases e
    simp only [RDs, RD] at rr
    obtain ⟨v, r', rfl, ⟨a, rfl, q⟩, rfl⟩ := rr
    exact call_list_of pins s σ H _ us Q I r ⟨a, _, rfl, .inl q.sq, newLst rs (RDs.ints _) fin⟩
  · cases e
theorem c_tuple : CallR X (.type "tuple") (rFL X.K fTuple) := by
  intro pins s σ H xs us Q I r h
  obtain ⟨m, S, ds, d, S', rs, rr, e, fin⟩ := h
  unfold fTuple at e
  split at e
  · cases e
    simp only [RDs, RD] at rr
    obtain ⟨v, r', rfl, ⟨a, vs, rfl, hq, t⟩, rfl⟩ := rr
    exact call_tuple_of pins s σ H _ us Q I r ⟨a, vs, rfl, .inr ⟨hq, fin m H _ (.refl _ _) rs (by simp only [RD]; exact ⟨a, vs, rfl, hq, t⟩)⟩⟩
  · split at e
    · rename_i ys el
      cases e
      simp only [RDs, RD] at rr
      obtain ⟨v, r', rfl, ⟨a, rfl, hm⟩, rfl⟩ := rr
      obtain ⟨vs, hq, t⟩ := rs.lst hm el
      exact call_tuple_of pins s σ H _ us Q I r ⟨a, vs, rfl, .inl ⟨hq, newTup rs t fin⟩⟩
    · cases e
  · cases e
theorem onLst_r {F : Value} {g : List D → Option D} (h : ∀ (pins : List (Addr × Obj)) (s : Shared) (σ : St) (H : Hp) (us : List Value) (Q : VK) (a : Addr) (vs : List V) (m : List Addr) (xs : List D) (d : D), Inv X pins σ H s → Vals [V.ref a] us → SqL X.K H a vs → RDs X.K m H xs vs → g xs = some d → (∀ v, RD X.K m H d v → Q v H) → wpAny (model X.prog X.w) X.A (call F us) (EP X pins σ Q) X.xe s) : CallR X F (rFL X.K (onLst g)) := by
  intro pins s σ H xs us Q I r q
  obtain ⟨m, S, ds, d, S', rs, rr, e, fin⟩ := q
  obtain ⟨n, ys, rfl, el, eg, rfl⟩ := onLst_some e
  simp only [RDs, RD] at rr
  obtain ⟨v, r', rfl, ⟨a, rfl, hm⟩, rfl⟩ := rr
  obtain ⟨vs, hq, t⟩ := rs.lst hm el
  exact h pins s σ H us Q a vs m ys d I r hq t eg fun v rv => fin m H v (.refl _ _) rs rv
theorem c_all (hc : X.calm = true) : CallR X (.builtin "all") (rFL X.K fAll) := onLst_r fun pins s σ H us Q a vs m xs d I r hq t e fin => by
  cases h : blsOf xs with
  | none => rw [h] at e; cases e
  | some bs =>
    rw [h] at e
    cases e
    have := blsOf_V t h
    subst this
    exact cr_all hc pins s σ H _ us Q I r ⟨a, bs, rfl, hq, fin _ (by simp only [RD])⟩
theorem c_any (hc : X.calm = true) : CallR X (.builtin "any") (rFL X.K fAny) := onLst_r fun pins s σ H us Q a vs m xs d I r hq t e fin => by
  cases h : blsOf xs with
  | none => rw [h] at e; cases e
  | some bs =>
    rw [h] at e
    cases e
    have := blsOf_V t h
    subst this
    exact cr_any hc pins s σ H _ us Q I r ⟨a, bs, rfl, hq, fin _ (by simp only [RD])⟩
theorem c_sum (hc : X.calm = true) : CallR X (.builtin "sum") (rFL X.K fSum) := onLst_r fun pins s σ H us Q a vs m xs d I r hq t e fin => by
  cases h : intsOf xs with
  | none => rw [h] at e; cases e
  | some bs =>
    rw [h] at e
    cases e
    have := intsOf_V t h
    subst this
    exact cr_sum hc pins s σ H _ us Q I r ⟨a, bs, rfl, hq, fin _ (by simp only [RD])⟩
theorem c_max1 (hc : X.calm = true) : CallR X (.builtin "max") (rFL X.K fMax1) := onLst_r fun pins s σ H us Q a vs m xs d I r hq t e fin => by
  cases h : intsOf xs with
  | none => rw [h] at e; cases e
  | some bs =>
    cases bs with
    | nil => rw [h] at e; cases e
    | cons i is =>
      rw [h] at e
      cases e
      have := intsOf_V t h
      subst this
      obtain ⟨h1, h2⟩ := maxI_is is i
      refine cr_max hc pins s σ H _ us Q I r ⟨a, i :: is, rfl, hq, by simp, fun mm m1 m2 => ?_⟩
      have : mm = is.foldl (fun a b => if a < b then b else a) i := Int.le_antisymm (h2 _ m1) (m2 _ h1)
      subst this
      exact fin _ (by simp only [RD])
theorem c_min1 (hc : X.calm = true) : CallR X (.builtin "min") (rFL X.K fMin1) := onLst_r fun pins s σ H us Q a vs m xs d I r hq t e fin => by
  cases h : intsOf xs with
  | none => rw [h] at e; cases e
  | some bs =>
    cases bs with
    | nil => rw [h] at e; cases e
    | cons i is =>
      rw [h] at e
      cases e
      have := intsOf_V t h
      subst this
      obtain ⟨h1, h2⟩ := minI_is is i
      refine cr_min hc pins s σ H _ us Q I r ⟨a, i :: is, rfl, hq, by simp, fun mm m1 m2 => ?_⟩
      have : mm = is.foldl (fun a b => if b < a then b else a) i := Int.le_antisymm (m2 _ h1) (h2 _ m1)
      subst this
      exact fin _ (by simp only [RD])
theorem c_max2 (hc : X.calm = true) : CallR X (.builtin "max") (rFL X.K fMax2) := by
  intro pins s σ H xs us Q I r h
  obtain ⟨m, S, ds, d, S', rs, rr, e, fin⟩ := h
  unfold fMax2 at e
  split at e
  · cases e
    simp only [RDs, RD] at rr
    obtain ⟨v, r', rfl, rfl, v', r'', rfl, rfl, rfl⟩ := rr
    exact call_max2 hc pins s σ H _ us Q I r ⟨_, _, rfl, fin m H _ (.refl _ _) rs (by simp only [RD])⟩
  · cases e
theorem c_min2 (hc : X.calm = true) : CallR X (.builtin "min") (rFL X.K fMin2) := by
  intro pins s σ H xs us Q I r h
  obtain ⟨m, S, ds, d, S', rs, rr, e, fin⟩ := h
  unfold fMin2 at e
  split at e
  · cases e
    simp only [RDs, RD] at rr
    obtain ⟨v, r', rfl, rfl, v', r'', rfl, rfl, rfl⟩ := rr
    exact call_min2 hc pins s σ H _ us Q I r ⟨_, _, rfl, fin m H _ (.refl _ _) rs (by simp only [RD])⟩
  · cases e
theorem c_abs : CallR X (.builtin "abs") (rFL X.K fAbs) := by
  intro pins s σ H xs us Q I r h
  obtain ⟨m, S, ds, d, S', rs, rr, e, fin⟩ := h
  unfold fAbs at e
  split at e
  · cases e
    simp only [RDs, RD] at rr
    obtain ⟨v, r', rfl, rfl, rfl⟩ := rr
    exact call_abs pins s σ H _ us Q I r ⟨_, rfl, fin m H _ (.refl _ _) rs (by simp only [RD])⟩
  · cases e
end
end L2.Z

set_option Elab.async false
set_option linter.all false
set_option maxRecDepth 100000
set_option maxHeartbeats 4000000
/-! ZA: methods of lists, stores to items, dict displays, defs. -/
namespace L2.Z
open PySem PySem.Spec PyProof.Rows
variable [HasT]

/-! ### methods of lists -/
def chkL (x : D) : M Unit := fun S => match x with
  | .loc n => match lstAt S n with
    | some _ => .ok () S
    | none => .bad
  | _ => .bad
def eM (h : D → FL) (f : Env → M D) (g : Env → M (List D)) : Env → M D := fun σ => bnd (f σ) fun x => bnd (chkL x) fun _ => bnd (g σ) fun ds => up (h x ds)
def fApp : D → FL := fun x ds S => match x, ds with
  | .loc n, [y] => match S.get n with
    | some (.lst xs) => match Nat.blt xs.length sizeLine with
      | true => some (.non, S.set n (.lst (xs ++ [y])))
      | false => none
    | _ => none
  | _, _ => none
def fExt : D → FL := fun x ds S => match x, ds with
  | .loc n, [.loc b] => match S.get n, S.get b with
    | some (.lst xs), some (.lst zs) => match Nat.ble (xs.length + zs.length) sizeLine with
      | true => some (.non, S.set n (.lst (xs ++ zs)))
      | false => none
    | _, _ => none
  | _, _ => none
def fPop : D → FL := fun x ds S => match x, ds with
  | .loc n, [] => match S.get n with
    | some (.lst xs) => (xs[xs.length - 1]?).map fun y => (y, S.set n (.lst xs.dropLast))
    | _ => none
  | _, _ => none
def fPopAt : D → FL := fun x ds S => match x, ds with
  | .loc n, [.int i] => match S.get n with
    | some (.lst xs) => match ixN xs.length i with
      | some k => (xs[k]?).map fun y => (y, S.set n (.lst (xs.eraseIdx k)))
      | none => none
    | _ => none
  | _, _ => none
theorem RDs.dropLast {K : PySem.W.Frag} {m : List Addr} {H : Hp} {ds : List D} {vs : List V} (h : RDs K m H ds vs) : RDs K m H ds.dropLast vs.dropLast := by
  rw [List.dropLast_eq_take, List.dropLast_eq_take, h.length]
  exact h.take _
theorem RDs.erase {K : PySem.W.Frag} {m : List Addr} {H : Hp} : ∀ {ds : List D} {vs : List V} (k : Nat), RDs K m H ds vs → RDs K m H (ds.eraseIdx k) (vs.eraseIdx k)
  | [], vs, k, h => by simp only [RDs] at h; subst h; simp only [List.eraseIdx_nil, RDs]
  | d :: ds, vs, 0, h => by
    simp only [RDs] at h
    obtain ⟨v, r, rfl, _, t⟩ := h
    exact t
  | d :: ds, vs, k + 1, h => by
    simp only [RDs] at h
    obtain ⟨v, r, rfl, q, t⟩ := h
    simp only [List.eraseIdx_cons_succ, RDs]
    exact ⟨v, r.eraseIdx k, rfl, q, RDs.erase k t⟩
theorem RDs.set {K : PySem.W.Frag} {m : List Addr} {H : Hp} : ∀ {ds : List D} {vs : List V} {d : D} {v : V} (k : Nat), RDs K m H ds vs → RD K m H d v → RDs K m H (ds.set k d) (vs.set k v)
  | [], vs, d, v, k, h, q => by simp only [RDs] at h; subst h; simp only [List.set_nil, RDs]
  | d0 :: ds, vs, d, v, 0, h, q => by
    simp only [RDs] at h
    obtain ⟨v0, r, rfl, _, t⟩ := h
    simp only [List.set_cons_zero, RDs]
    exact ⟨v, r, rfl, q, t⟩
  | d0 :: ds, vs, d, v, k + 1, h, q => by
    simp only [RDs] at h
    obtain ⟨v0, r, rfl, q0, t⟩ := h
    simp only [List.set_cons_succ, RDs]
    exact ⟨v0, r.set k v, rfl, q0, RDs.set k t q⟩
/-- a list of the store is written -/
theorem RS.setL {K : PySem.W.Frag} {m : List Addr} {S : Sto} {H : Hp} (rs : RS K m S H) {n : Nat} {a : Addr} {xs ys : List D} {vs ws : List V} (hm : m[n]? = some a) (g : S.get n = some (.lst xs)) (hv : H a = some (.lst vs)) (r : RDs K m H ys ws) : Ext m H m (upd H a (.lst ws)) ∧ RS K m (S.set n (.lst ys)) (upd H a (.lst ws)) :=
  rs.set hm g hv (fun _ z => nomatch z) (fun _ _ z => nomatch z) (fun m' H' x => ⟨_, rfl, RDs.mono x _ _ r⟩)
section
variable {X : Cx}
theorem m_app : MtR X "list.append" (rFM X.K fApp) := by
  intro pins s σ H x xs v us Q I rx rxs h
  obtain ⟨m, S, d0, ds, d, S', rs, r0, rr, e, fin⟩ := h
  unfold fApp at e
  split at e
  · rename_i n y
    split at e
    · rename_i zs eg
      split at e
      · rename_i hl
        cases e
        simp only [RD] at r0
        obtain ⟨a, rfl, hm⟩ := r0
        simp only [RDs] at rr
        obtain ⟨yv, r', rfl, ry, rfl⟩ := rr
        obtain ⟨vs, hv, t⟩ := rs.obj hm eg
        obtain ⟨x1, rs1⟩ := rs.setL hm eg hv (t.snoc ry)
        exact mt_append pins s σ H _ _ v us Q I rx rxs ⟨a, vs, yv, rfl, rfl, hv, by rw [← t.length]; exact Nat.le_of_ble_eq_true hl, fin m _ _ x1 rs1 (by simp only [RD])⟩
      · cases e
    · cases e
  · cases e
theorem m_ext : MtR X "list.extend" (rFM X.K fExt) := by
  intro pins s σ H x xs v us Q I rx rxs h
  obtain ⟨m, S, d0, ds, d, S', rs, r0, rr, e, fin⟩ := h
  unfold fExt at e
  split at e
  · rename_i n b
    split at e
    · rename_i zs ws eg eg'
      split at e
      · rename_i hl
        cases e
        simp only [RD] at r0
        obtain ⟨a, rfl, hm⟩ := r0
        simp only [RDs, RD] at rr
        obtain ⟨yv, r', rfl, ⟨b', rfl, hm'⟩, rfl⟩ := rr
        obtain ⟨vs, hv, t⟩ := rs.obj hm eg
        obtain ⟨vs', hv', t'⟩ := rs.obj hm' eg'
        obtain ⟨x1, rs1⟩ := rs.setL hm eg hv (t.append t')
        exact mt_extend pins s σ H _ _ v us Q I rx rxs ⟨a, b', vs, vs', rfl, rfl, hv, hv', by rw [← t.length, ← t'.length]; exact Nat.le_of_ble_eq_true hl, fin m _ _ x1 rs1 (by simp only [RD])⟩
      · cases e
    · cases e
  · cases e
theorem m_pop : MtR X "list.pop" (rFM X.K fPop) := by
  intro pins s σ H x xs v us Q I rx rxs h
  obtain ⟨m, S, d0, ds, d, S', rs, r0, rr, e, fin⟩ := h
  unfold fPop at e
  split at e
  · rename_i n
    split at e
    · rename_i zs eg
      cases ez : zs[zs.length - 1]? with
      | none => rw [ez] at e; cases e
      | some y =>
        rw [ez] at e
        cases e
        simp only [RD] at r0
        obtain ⟨a, rfl, hm⟩ := r0
        simp only [RDs] at rr
        subst rr
        obtain ⟨vs, hv, t⟩ := rs.obj hm eg
        obtain ⟨yv, ey, ry⟩ := t.get ez
        obtain ⟨x1, rs1⟩ := rs.setL hm eg hv t.dropLast
        exact mt_pop pins s σ H _ _ v us Q I rx rxs ⟨a, vs, yv, rfl, rfl, hv, by rw [← t.length]; exact ey, fin m _ _ x1 rs1 (RD.mono x1 _ _ ry)⟩
    · cases e
  · cases e
theorem m_popAt : MtR X "list.pop" (rFM X.K fPopAt) := by
  intro pins s σ H x xs v us Q I rx rxs h
  obtain ⟨m, S, d0, ds, d, S', rs, r0, rr, e, fin⟩ := h
  unfold fPopAt at e
  split at e
  · rename_i n i
    split at e
    · rename_i zs eg
      split at e
      · rename_i k ek
        cases ez : zs[k]? with
        | none => rw [ez] at e; cases e
        | some y =>
          rw [ez] at e
          cases e
          simp only [RD] at r0
          obtain ⟨a, rfl, hm⟩ := r0
          simp only [RDs, RD] at rr
          obtain ⟨yv, r', rfl, rfl, rfl⟩ := rr
          obtain ⟨vs, hv, t⟩ := rs.obj hm eg
          obtain ⟨yv, ey, ry⟩ := t.get ez
          obtain ⟨x1, rs1⟩ := rs.setL hm eg hv (t.erase k)
          rw [t.length] at ek
          obtain ⟨g1, g2, g3, g4⟩ := ixN_seq ek
          have hz : vs.length ≤ 16777216 := by
            obtain ⟨_, _, _, hz⟩ := I.list (SqL.of hv)
            have := sizeLine_eq
            omega
          exact mt_popAt pins s σ H _ _ v us Q I rx rxs ⟨a, vs, i, k, yv, rfl, rfl, hv, by omega, by omega, g1, ey, fin m _ _ x1 rs1 (RD.mono x1 _ _ ry)⟩
      · cases e
    · cases e
  · cases e
end
section
variable {X : Cx} {o e : Expr} {es : List Expr} {f : Env → M D} {g : Env → M (List D)} {name : Str} {apos cpos : Pos} {id : String} {h : D → FL}
theorem PostG.chkL {K : PySem.W.Frag} {mg : Str → Option Value} {m : List Addr} {H : Hp} {E : XK} {x : D} {S : Sto} {P : Unit → Sto → List Addr → Hp → Prop} (h : PostG K mg m H (Z.chkL x S) P E) (rs : RS K m S H) : ∃ n xs, x = .loc n ∧ lstAt S n = some xs ∧ P () S m H := by
  unfold Z.chkL at h
  split at h
  · rename_i n
    cases e : lstAt S n with
    | none => rw [e] at h; exact h.elim
    | some xs => rw [e] at h; exact ⟨n, xs, rfl, e, h m H (.refl _ _) rs⟩
  · exact h.elim
theorem q_lm (slot : Slot "list" name id) (hty : typeOf (.builtin id) = pure (.type "method_descriptor")) (hm : MtR X id (rFM X.K h)) (ho : QE X o f) (ha : QA X (e :: es) g)
    (hbase : attributeBase o name X.env (eval o X.env) = eval o X.env := by rfl)
    (hfew : ((backTo cpos (starEach (e :: es) X.env)).all (fun x => !x.1) && (backToKw cpos (keywordEach [] X.env)).all (fun x => x.1.isSome)
      && decide ((e :: es).length + ([] : List Keyword).length + (if ([] : List Keyword).isEmpty then 0 else 1) < 30)) = true := by rfl)
    (hline : (apos.endLine == cpos.line) = true := by rfl) (hs : starEach (e :: es) X.env = (false, eval e X.env) :: starEach es X.env := by rfl) (hplain : (backTo cpos (starEach es X.env)).any (·.1) = false := by rfl) :
    QE X (.Call (.Attribute o name apos) (e :: es) [] cpos) (eM h f g) := ⟨fun W tk m S σ σv H P rs re p => by
  refine wE.of (pe_bm PySem.F.plainAttrs_list slot hty hm (pw o) (paw (e :: es)) hbase hfew hline hs hplain) ?_
  refine (ho.run W tk m S σ σv H _ rs re p.bnd).mono ?_
  rintro x H1 ⟨d1, S1, m1, rs1, r1, x1, q1⟩
  obtain ⟨n, xs, rfl, el, q2⟩ := q1.bnd.chkL rs1
  have r1' := r1
  simp only [RD] at r1'
  obtain ⟨a, rfl, hma⟩ := r1'
  obtain ⟨vs, hq, t⟩ := rs1.lst hma el
  refine ⟨.inl ⟨rfl, vs, hq⟩, ?_⟩
  intro pos' pins' s' I'
  refine thn (ha.run W tk m1 S1 σ σv H1 _ rs1 (re.mono x1) q2.bnd pos' pins' s' I') ?_
  rintro us s2 ⟨ws, H2, I2, rv, ds, S2, m2, rs2, r2, x2, q3⟩
  obtain ⟨d, S', e', fin⟩ := q3.up
  exact ⟨ws, H2, I2, rv, m2, S2, .loc n, ds, d, S', rs2, RD.mono x2 _ _ r1, r2, e', fun m' H' v x' rs' rv' => ⟨d, S', m', rs', rv', (x1.trans x2).trans x', fin m' H' x' rs'⟩⟩⟩
theorem q_lm0 (slot : Slot "list" name id) (hty : typeOf (.builtin id) = pure (.type "method_descriptor")) (hm : MtR X id (rFM X.K h)) (ho : QE X o f)
    (hbase : attributeBase o name X.env (eval o X.env) = eval o X.env := by rfl) (hline : (apos.endLine == cpos.line) = true := by rfl) : QE X (.Call (.Attribute o name apos) [] [] cpos) (eM h f aNil) := ⟨fun W tk m S σ σv H P rs re p => by
  refine wE.of (pe_bm0 PySem.F.plainAttrs_list slot hty hm (pw o) hbase hline) ?_
  refine (ho.run W tk m S σ σv H _ rs re p.bnd).mono ?_
  rintro x H1 ⟨d1, S1, m1, rs1, r1, x1, q1⟩
  obtain ⟨n, xs, rfl, el, q2⟩ := q1.bnd.chkL rs1
  have r1' := r1
  simp only [RD] at r1'
  obtain ⟨a, rfl, hma⟩ := r1'
  obtain ⟨vs, hq, t⟩ := rs1.lst hma el
  refine ⟨.inl ⟨rfl, vs, hq⟩, ?_⟩
  have q3 := q2.bnd m1 H1 (.refl _ _) rs1
  obtain ⟨d, S', e', fin⟩ := PostG.up q3
  exact ⟨m1, S1, .loc n, [], d, S', rs1, r1, by simp only [RDs], e', fun m' H' v x' rs' rv' => ⟨d, S', m', rs', rv', x1.trans x', fin m' H' x' rs'⟩⟩⟩
end

/-! ### o[i] = e -/
def putD {κ : Type} [DecidableEq κ] (kvs : List (κ × D)) (k : κ) (v : D) : List (κ × D) :=
  if (kvs.any fun kv => decide (kv.1 = k)) = true then kvs.map (fun kv => if kv.1 = k then (kv.1, v) else kv) else kvs ++ [(k, v)]
def fPut (x i v : D) (S : Sto) : Option Sto := match x with
  | .loc n => match S.get n with
    | some (.lst xs) => match i with
      | .int k => match ixN xs.length k with
        | some j => some (S.set n (.lst (xs.set j v)))
        | none => none
      | _ => none
    | some (.dK kvs) => match keyOf i with
      | some k => match Nat.blt kvs.length sizeLine with
        | true => some (S.set n (.dK (putD kvs k v)))
        | false => none
      | none => none
    | _ => none
  | _ => none
def sSub (fo fi fe : Env → M D) : Sm := fun σ => sE (fe σ) σ fun v => sE (fo σ) σ fun x => sE (fi σ) σ fun i S => match fPut x i v S with
  | some S' => .ok (.nx, σ) S'
  | none => .bad
theorem RKs.any {κ : Type} [DecidableEq κ] {K : PySem.W.Frag} {m : List Addr} {H : Hp} {k : κ} : ∀ {kvs : List (κ × D)} {vs : List (κ × V)}, RKs K m H kvs vs → (kvs.any fun kv => decide (kv.1 = k)) = (vs.any fun kv => decide (kv.1 = k))
  | [], vs, h => by simp only [RKs] at h; subst h; rfl
  | p :: kvs, vs, h => by
    simp only [RKs] at h
    obtain ⟨v, r, rfl, _, rr⟩ := h
    rw [List.any_cons, List.any_cons, RKs.any rr]
theorem RKs.mapPut {κ : Type} [DecidableEq κ] {K : PySem.W.Frag} {m : List Addr} {H : Hp} {k : κ} {d : D} {w : V} (q : RD K m H d w) : ∀ {kvs : List (κ × D)} {vs : List (κ × V)}, RKs K m H kvs vs → RKs K m H (kvs.map fun kv => if kv.1 = k then (kv.1, d) else kv) (vs.map fun kv => if kv.1 = k then (kv.1, w) else kv)
  | [], vs, h => by simp only [RKs] at h; subst h; simp only [List.map_nil, RKs]
  | p :: kvs, vs, h => by
    simp only [RKs] at h
    obtain ⟨v, r, rfl, rd, rr⟩ := h
    simp only [List.map_cons, RKs]
    by_cases e : p.1 = k
    · exact ⟨w, _, by simp [e], by simp [e]; exact q, RKs.mapPut q rr⟩
    · exact ⟨v, _, by simp [e], by simp [e]; exact rd, RKs.mapPut q rr⟩
theorem RKs.snoc {κ : Type} {K : PySem.W.Frag} {m : List Addr} {H : Hp} {k : κ} {d : D} {w : V} (q : RD K m H d w) : ∀ {kvs : List (κ × D)} {vs : List (κ × V)}, RKs K m H kvs vs → RKs K m H (kvs ++ [(k, d)]) (vs ++ [(k, w)])
  | [], vs, h => by simp only [RKs] at h; subst h; simp only [List.nil_append, RKs]; exact ⟨w, [], rfl, q, rfl⟩
  | p :: kvs, vs, h => by
    simp only [RKs] at h
    obtain ⟨v, r, rfl, rd, rr⟩ := h
    simp only [List.cons_append, RKs]
    exact ⟨v, _, rfl, rd, RKs.snoc q rr⟩
theorem RKs.put {κ : Type} [DecidableEq κ] {K : PySem.W.Frag} {m : List Addr} {H : Hp} {k : κ} {d : D} {w : V} (q : RD K m H d w) {kvs : List (κ × D)} {vs : List (κ × V)} (h : RKs K m H kvs vs) : RKs K m H (putD kvs k d) (putK vs k w) := by
  unfold putD putK
  rw [← RKs.any (k := k) h]
  split
  · exact RKs.mapPut q h
  · exact RKs.snoc q h
theorem keyOf_V {K : PySem.W.Frag} {m : List Addr} {H : Hp} {d : D} {v : V} {k : Key} (r : RD K m H d v) (e : keyOf d = some k) : v = kV k := by
  unfold keyOf at e
  split at e
  · cases e; simp only [RD] at r; exact r
  · cases e; simp only [RD] at r; exact r
  · cases e
section
variable {X : Cx} {o i e : Expr} {fo fi fe : Env → M D} {pos pos' : Pos}
theorem qs_sub {k : Nat} (hr : Rm k X.A) (ho : QE X o fo) (hi : QE X i fi) (he : QE X e fe) (hs : swapsWith e (some (.Subscript o i pos')) pos.line X.env = pure false := by rfl) (hw : swappedStores [.Subscript o i pos'] e X.env = pure none := by rfl)
    (h1 : (assignEach [.Subscript o i pos'] X.env).map (·.2) = [assign (.Subscript o i pos') X.env] := by rfl)
    (ha : ∀ v, assign (.Subscript o i pos') X.env v = (do
      let ov ← holding [v] (eval o X.env)
      let iv ← holding [v, ov] (eval i X.env)
      standAt pos'
      holding [v, ov, iv] (setItem ov iv v)
      release [v, ov, iv] []) := by intro _; rfl) : QS X (.Assign [.Subscript o i pos'] e pos) (sSub fo fi fe) := ⟨fun W tk m S σ σv H Dn rs re p => by
  -- what is read of the three, then what the store asks
  have rd : ∀ {R : V → V → V → Hp → Prop}, (∀ m3 S3 H3 d1 d2 d3 x y z S', RS X.K m3 S3 H3 → RD X.K m3 H3 d1 x → RD X.K m3 H3 d2 y → RD X.K m3 H3 d3 z → RE X.K m3 H3 σ σv → fPut d2 d3 d1 S3 = some S' → (∃ n o, d2 = .loc n ∧ S3.get n = some o) → PostS X.K X.mg m3 H3 (.ok (.nx, σ) S') Dn W → R x y z H3) →
      wE X e σv H fun v H1 => wE X o σv H1 fun ov H2 => wE X i σv H2 fun iv H3 => R v ov iv H3 := fun {R} hR => by
    refine (he.run W tk m S σ σv H _ rs re (PostS.sE re p)).mono ?_
    rintro v H1 ⟨d1, S1, m1, rs1, r1, x1, q1⟩
    refine (ho.run W tk m1 S1 σ σv H1 _ rs1 (re.mono x1) (PostS.sE (re.mono x1) q1)).mono ?_
    rintro ov H2 ⟨d2, S2, m2, rs2, r2, x2, q2⟩
    refine (hi.run W tk m2 S2 σ σv H2 _ rs2 ((re.mono x1).mono x2) (PostS.sE ((re.mono x1).mono x2) q2)).mono ?_
    rintro iv H3 ⟨d3, S3, m3, rs3, r3, x3, q3⟩
    cases ep : fPut d2 d3 d1 S3 with
    | none => rw [ep] at q3; exact q3.elim
    | some S' =>
      rw [ep] at q3
      have ex : ∃ n o, d2 = .loc n ∧ S3.get n = some o := by
        unfold fPut at ep
        split at ep
        · rename_i n
          cases h : S3.get n with
          | none => rw [h] at ep; cases ep
          | some o => exact ⟨n, o, rfl, h⟩
        · cases ep
      exact hR m3 S3 H3 d1 d2 d3 v ov iv S' rs3 (RD.mono (x2.trans x3) _ _ r1) (RD.mono x3 _ _ r2) r3 (((re.mono x1).mono x2).mono x3) ep ex q3
  -- is it a list or a dict? read it off the model's own state: both at once
  intro pins s I
  refine wpAny_Assign_Subscript ?_ hs
  refine thn (rd (R := fun x y z H3 => ∀ pins s u ov iv, Inv X pins σv H3 s → RelV x u → RelV y ov → RelV z iv → wpAny (model X.prog X.w) X.A (setItem ov iv u) (fun _ s' => SP X pins Dn .next s') X.xe s) ?_ pins s I) ?_
  · intro m3 S3 H3 d1 d2 d3 x y z S' rs3 r1 r2 r3 re3 ep ex q pins s u ov iv I3 ru rov riv
    obtain ⟨n, ob, rfl, eg⟩ := ex
    simp only [RD] at r2
    obtain ⟨a, rfl, hm⟩ := r2
    simp only [fPut, eg] at ep
    cases ob with
    | lst xs =>
      simp only at ep
      split at ep
      · rename_i kk
        split at ep
        · rename_i j ej
          cases ep
          simp only [RD] at r3
          subst r3
          obtain ⟨vs, hv, t⟩ := rs3.obj hm eg
          rw [t.length] at ej
          obtain ⟨x4, rs4⟩ := rs3.setL hm eg hv (t.set j r1)
          refine thn (set_list pins s σv H3 _ _ x ov iv u (fun H' => H' = upd H3 a (.lst (vs.set j x))) I3 rov riv ru ⟨a, vs, kk, j, rfl, rfl, hv, ej, rfl⟩) ?_
          rintro _ s' ⟨H', I', rfl⟩
          exact ⟨σv, _, I', q m3 _ σv x4 rs4 (re3.mono x4)⟩
        · cases ep
      · cases ep
    | dK kvs =>
      simp only at ep
      split at ep
      · rename_i key ek
        split at ep
        · rename_i hl
          cases ep
          have ez := keyOf_V r3 ek
          obtain ⟨vs, hv, t⟩ := rs3.obj hm eg
          obtain ⟨x4, rs4⟩ := rs3.set (o := .dK (putD kvs key d1)) (u := .dK (putK vs key x)) hm eg hv (fun _ z => nomatch z) (fun _ _ z => nomatch z) (fun m' H' x' => ⟨_, rfl, RKs.mono x' _ _ (RKs.put r1 t)⟩)
          subst ez
          obtain rfl : ov = Value.ref a := rov
          exact d_setItem (hu_of hr.toRoom) I3 (DPut.k hv (by rw [← t.length]; exact Nat.le_of_ble_eq_true hl)) riv ru fun s4 I4 => ⟨σv, _, I4, q m3 _ σv x4 rs4 (re3.mono x4)⟩
        · cases ep
      · cases ep
    | fz _ => cases ep
    | dT _ => cases ep
    | fd _ => cases ep
  · rintro u s1 ⟨v, H1, I1, ru, h2⟩
    refine thn (h2 pins s1 I1) ?_
    rintro ov s2 ⟨ovv, H2, I2, rov, h3⟩
    refine thn (h3 pins s2 I2) ?_
    rintro iv s3 ⟨ivv, H3, I3, riv, h4⟩
    exact h4 pins s3 u ov iv I3 ru rov riv⟩
end
end L2.Z

set_option Elab.async false
set_option linter.all false
set_option maxRecDepth 100000
set_option maxHeartbeats 4000000
/-! ZB: dict displays, -x, three at once, defs, the law's end. -/
namespace L2.Z
open PySem PySem.Spec PyProof.Rows
variable [HasT]

/-! ### {k: v, ..} -/
abbrev Prs := List ((Env → M D) × (Env → M D))
def pM : Prs → Env → M (List (Key × D))
  | [], _ => ret []
  | (fk, fv) :: r, σ => bnd (fk σ) fun k => bnd (fv σ) fun v => bnd (pM r σ) fun ps => match keyOf k with
    | some kk => ret ((kk, v) :: ps)
    | none => bad
def mergeD (kvs more : List (Key × D)) : List (Key × D) := more.foldl (fun acc kv => putD acc kv.1 kv.2) kvs
def eDict (prs : Prs) : Env → M D := fun σ S => match pM prs σ (S.push (.dK [])) with
  | .ok kvs S2 => match S2.get S.n with
    | some (.dK []) => match Nat.ble kvs.length 15 with
      | true => .ok (.loc S.n) (S2.set S.n (.dK (mergeD [] kvs)))
      | false => .bad
    | _ => .bad
  | .exc x S' => .exc x S'
  | .bad => .bad
def QPs (X : Cx) : List (Option Expr) → List Expr → Prs → Prop
  | [], [], [] => True
  | some k :: ks, v :: vs, (fk, fv) :: ps => QE X k fk ∧ QE X v fv ∧ QPs X ks vs ps
  | _, _, _ => False
def trsOf (X : Cx) : List (Option Expr) → List Expr → List (TE × TE)
  | some k :: ks, v :: vs => (wE X k, wE X v) :: trsOf X ks vs
  | _, _ => []
theorem QPs.pps {X : Cx} {pos : Pos} : ∀ {ks : List (Option Expr)} {vs : List Expr} {ps : Prs}, QPs X ks vs ps → PPs X pos ks vs (trsOf X ks vs)
  | [], [], [], _ => pps_nil
  | some k :: ks, v :: vs, (fk, fv) :: ps, h => pps_cons (pw k) (pw v) (QPs.pps h.2.2)
  | [], [], _ :: _, h => h.elim
  | [], _ :: _, _, h => h.elim
  | none :: _, _, _, h => h.elim
  | some _ :: _, [], _, h => h.elim
  | some _ :: _, _ :: _, [], h => h.elim
theorem QPs.reads {X : Cx} : ∀ {ks : List (Option Expr)} {vs : List Expr} {ps : Prs}, QPs X ks vs ps → ∀ {W : WX}, Takes X W → ∀ {m : List Addr} {S : Sto} {σ : Env} {σv : St} {H : Hp} {P : List (Key × D) → Sto → List Addr → Hp → Prop}, RS X.K m S H → RE X.K m H σ σv →
    PostG X.K X.mg m H (pM ps σ S) P (fun c d H' => W c d σv H') → tPairs (trsOf X ks vs) σv H (fun qs H' => ∃ kvs kws S' m', RS X.K m' S' H' ∧ RKs X.K m' H' kvs kws ∧ qs = kws.map (fun kv => (kV kv.1, kv.2)) ∧ Ext m H m' H' ∧ P kvs S' m' H')
  | [], [], [], _, W, tk, m, S, σ, σv, H, P, rs, re, p => ⟨[], [], S, m, rs, by simp only [RKs], rfl, .refl _ _, p m H (.refl _ _) rs⟩
  | some k :: ks, v :: vs, (fk, fv) :: ps, h, W, tk, m, S, σ, σv, H, P, rs, re, p => by
    obtain ⟨h1, h2, h3⟩ := h
    refine (h1.run W tk m S σ σv H _ rs re (PostG.bnd p)).mono ?_
    rintro x H1 ⟨d1, S1, m1, rs1, r1, x1, q1⟩
    refine (h2.run W tk m1 S1 σ σv H1 _ rs1 (re.mono x1) (PostG.bnd q1)).mono ?_
    rintro y H2 ⟨d2, S2, m2, rs2, r2, x2, q2⟩
    have ih := QPs.reads h3 tk rs2 ((re.mono x1).mono x2) (PostG.bnd q2)
    have mono : ∀ (trs : List (TE × TE)) (hm : ∀ t ∈ trs, (∀ σ H Q Q', t.1 σ H Q → (∀ v H', Q v H' → Q' v H') → t.1 σ H Q') ∧ (∀ σ H Q Q', t.2 σ H Q → (∀ v H', Q v H' → Q' v H') → t.2 σ H Q')) (H : Hp) (Q Q' : List (V × V) → Hp → Prop), tPairs trs σv H Q → (∀ a b, Q a b → Q' a b) → tPairs trs σv H Q' := by
      intro trs
      induction trs with
      | nil => intro _ H Q Q' h q; exact q _ _ h
      | cons t trs ih =>
        intro hm H Q Q' h q
        obtain ⟨t1, t2⟩ := t
        have hm0 := hm _ List.mem_cons_self
        refine hm0.1 _ _ _ _ h fun v H' h' => hm0.2 _ _ _ _ h' fun w H'' h'' => ih (fun t ht => hm t (List.mem_cons_of_mem _ ht)) _ _ _ h'' fun a b => q _ _
    have hmon : ∀ (ks : List (Option Expr)) (vs : List Expr), ∀ t ∈ trsOf X ks vs, (∀ σ H Q Q', t.1 σ H Q → (∀ v H', Q v H' → Q' v H') → t.1 σ H Q') ∧ (∀ σ H Q Q', t.2 σ H Q → (∀ v H', Q v H' → Q' v H') → t.2 σ H Q') := by
      intro ks
      induction ks with
      | nil => intro vs t ht; cases ht
      | cons k ks ih =>
        intro vs t ht
        cases k with
        | none => cases ht
        | some k =>
          cases vs with
          | nil => cases ht
          | cons v vs =>
            rcases List.mem_cons.mp ht with rfl | ht
            · exact ⟨fun σ H Q Q' a b => wE.mono a b, fun σ H Q Q' a b => wE.mono a b⟩
            · exact ih vs t ht
    refine mono _ (hmon ks vs) _ _ _ ih ?_
    rintro qs H3 ⟨kvs, kws, S3, m3, rs3, rk, rfl, x3, q3⟩
    cases ek : keyOf d1 with
    | none => rw [ek] at q3; exact q3.elim
    | some kk =>
      rw [ek] at q3
      have ex := keyOf_V r1 ek
      refine ⟨(kk, d2) :: kvs, (kk, y) :: kws, S3, m3, rs3, ?_, by rw [ex]; rfl, (x1.trans x2).trans x3, q3 m3 H3 (.refl _ _) rs3⟩
      simp only [RKs]
      exact ⟨y, kws, rfl, RD.mono x3 _ _ r2, rk⟩
  | [], [], _ :: _, h, _, _, _, _, _, _, _, _, _, _, _ => h.elim
  | [], _ :: _, _, h, _, _, _, _, _, _, _, _, _, _, _ => h.elim
  | none :: _, _, _, h, _, _, _, _, _, _, _, _, _, _, _ => h.elim
  | some _ :: _, [], _, h, _, _, _, _, _, _, _, _, _, _, _ => h.elim
  | some _ :: _, _ :: _, [], h, _, _, _, _, _, _, _, _, _, _, _ => h.elim
theorem RKs.merge {K : PySem.W.Frag} {m : List Addr} {H : Hp} : ∀ {more : List (Key × D)} {mv : List (Key × V)} {kvs : List (Key × D)} {vs : List (Key × V)}, RKs K m H more mv → RKs K m H kvs vs → RKs K m H (mergeD kvs more) (mergeK vs mv)
  | [], mv, kvs, vs, h, q => by simp only [RKs] at h; subst h; exact q
  | p :: more, mv, kvs, vs, h, q => by
    simp only [RKs] at h
    obtain ⟨v, r, rfl, rd, rr⟩ := h
    exact RKs.merge (kvs := putD kvs p.1 p.2) (vs := putK vs p.1 v) rr (RKs.put rd q)
section
variable {X : Cx} {pos : Pos}
theorem q_dict {keys : List (Option Expr)} {values : List Expr} {prs : Prs} (h : QPs X keys values prs) (hall : keys.all (·.isSome) = true := by rfl) (hl : keys.length = values.length := by rfl) (h0 : keys ≠ [] := by intro z; cases z) (h15 : keys.length ≤ 15 := by decide) : QE X (.Dict keys values pos) (eDict prs) := ⟨fun W tk m S σ σv H P rs re p => by
  refine wE.of (pe_disp h.pps hall hl h0 h15) ?_
  intro q hq
  obtain ⟨x1, rs1, g1⟩ := rs.push (o := .dK []) (u := .dK []) hq (fun m' H' x => ⟨[], rfl, by simp only [RKs]⟩)
  have p1 : PostG X.K X.mg (m ++ [q]) (upd H q (.dK [])) (pM prs σ (S.push (.dK []))) (fun kvs S2 m2 H2 => S2.get S.n = some (.dK []) ∧ kvs.length ≤ 15 ∧ PostG X.K X.mg m2 H2 (.ok (D.loc S.n) (S2.set S.n (.dK (mergeD [] kvs)))) P (fun c d H' => W c d σv H')) (fun c d H' => W c d σv H') := by
    unfold eDict at p
    cases e1 : pM prs σ (S.push (.dK [])) with
    | bad => rw [e1] at p; exact p
    | exc y S' => rw [e1] at p; exact PostG.ext p x1
    | ok kvs S2 =>
      simp only [e1] at p
      intro m2 H2 x2 rs2
      cases eg : S2.get S.n with
      | none => simp only [eg] at p; exact p.elim
      | some o =>
        cases o with
        | dK l =>
          cases l with
          | nil =>
            simp only [eg] at p
            cases hl : Nat.ble kvs.length 15 with
            | true => simp only [hl] at p; exact ⟨rfl, Nat.le_of_ble_eq_true hl, PostG.ext p (x1.trans x2)⟩
            | false => simp only [hl] at p; exact p.elim
          | cons _ _ => simp only [eg] at p; exact p.elim
        | lst _ => simp only [eg] at p; exact p.elim
        | fz _ => simp only [eg] at p; exact p.elim
        | dT _ => simp only [eg] at p; exact p.elim
        | fd _ => simp only [eg] at p; exact p.elim
  have rr := h.reads tk rs1 (re.mono x1) p1
  have mono : ∀ (ks : List (Option Expr)) (vs : List Expr) (H : Hp) (Q Q' : List (V × V) → Hp → Prop), tPairs (trsOf X ks vs) σv H Q → (∀ a b, Q a b → Q' a b) → tPairs (trsOf X ks vs) σv H Q' := by
    intro ks
    induction ks with
    | nil => intro vs H Q Q' h q; exact q _ _ h
    | cons k ks ih =>
      intro vs H Q Q' h q
      cases k with
      | none => exact q _ _ h
      | some k =>
        cases vs with
        | nil => exact q _ _ h
        | cons v vs => exact wE.mono h fun x H1 h1 => wE.mono h1 fun y H2 h2 => ih vs _ _ _ h2 fun a b => q _ _
  refine mono keys values _ _ _ rr ?_
  rintro qs H2 ⟨kvs, kws, S2, m2, rs2, rk, rfl, x2, eg, hl, q2⟩
  have gn : m2[S.n]? = some q := pre_get x2.pre g1
  obtain ⟨vs0, hv, t0⟩ := rs2.obj gn eg
  simp only [RKs] at t0
  subst t0
  refine ⟨hv, kws, rfl, by rw [← rk.length]; exact hl, ?_⟩
  obtain ⟨x3, rs3⟩ := rs2.set (o := .dK (mergeD [] kvs)) (u := .dK (mergeK [] kws)) gn eg hv (fun _ z => nomatch z) (fun _ _ z => nomatch z) (fun m' H' x => ⟨_, rfl, RKs.mono x _ _ (RKs.merge rk (by simp only [RKs]))⟩)
  refine ⟨.loc S.n, _, m2, rs3, ?_, (x1.trans x2).trans x3, q2 m2 _ x3 rs3⟩
  simp only [RD]
  exact ⟨q, rfl, gn⟩⟩
end

/-! ### -x -/
def fNeg : F1 := fun d S => match d with
  | .int i => some (.int (-i), S)
  | _ => none
section
variable {X : Cx}
theorem u_neg : UnR X (unaryOp .USub) (rF1 X.K fNeg) := by
  intro pins s σ H x v Q I rx h
  obtain ⟨m, S, d0, d, S', rs, r0, e, fin⟩ := h
  unfold fNeg at e
  split at e
  · cases e
    simp only [RD] at r0
    exact un_neg pins s σ H x v Q I rx ⟨_, r0, fin m H _ (.refl _ _) rs (by simp only [RD])⟩
  · cases e
end
/-! ### a, b, c = x, y, z: plain local names -/
def sPar3 (i j l : Nat) (g : Env → M (List D)) : Sm := fun σ => sE (g σ) σ fun ds => match ds with
  | [a, b, c] => ret (.nx, ((σ.set i (some a)).set j (some b)).set l (some c))
  | _ => bad
section
variable {X : Cx} {pos : Pos}
theorem qs_par3 (i j l : Nat) {x y z : Str} {a b c : Expr} {g : Env → M (List D)} {px py pz pt : Pos} {kt k2 pt2} (hc : X.calm = true) (hN : X.N.Nodup) (ha : QA X [a, b, c] g)
    (hi : X.N[i]? = some x := by kernel_rfl) (hj : X.N[j]? = some y := by kernel_rfl) (hl : X.N[l]? = some z := by kernel_rfl) (hij : i ≠ j := by decide) (hil : i ≠ l := by decide) (hjl : j ≠ l := by decide)
    (hx : X.env.scope.names.lookup x = some .local := by kernel_rfl) (hy : X.env.scope.names.lookup y = some .local := by kernel_rfl) (hz : X.env.scope.names.lookup z = some .local := by kernel_rfl)
    (hw : swappedStores [.Tuple [.Name x px, .Name y py, .Name z pz] kt pt] (.Tuple [a, b, c] k2 pt2) X.env = pure (some [x, y, z]) := by kernel_rfl)
    (hs : swapsWithSole [.Tuple [.Name x px, .Name y py, .Name z pz] kt pt] (.Tuple [a, b, c] k2 pt2) pos.line X.env = pure false := by rfl) :
    QS X (.Assign [.Tuple [.Name x px, .Name y py, .Name z pz] kt pt] (.Tuple [a, b, c] k2 pt2) pos) (sPar3 i j l g) := ⟨fun W tk m S σ σv H Dn rs re p => by
  refine wS.of (ps_par3 hc hN hi hj hl hij hil hjl hx hy hz (paw [a, b, c]) hw hs) ?_
  intro pos' pins' s' I'
  refine thn (ha.run W tk m S σ σv H _ rs re (PostS.sE re p) pos' pins' s' I') ?_
  rintro us s2 ⟨vs, H2, I2, rv, ds, S2, m2, rs2, r2, x2, q2⟩
  refine ⟨vs, H2, I2, rv, ?_⟩
  match ds, r2, q2 with
  | [d1, d2, d3], r2, q2 =>
    simp only [RDs] at r2
    obtain ⟨v, r, rfl, rd, w, r', rfl, rd', w', r'', rfl, rd'', rfl⟩ := r2
    exact ⟨v, w, w', rfl, q2 m2 H2 _ (.refl _ _) rs2 ((((re.mono x2).set rd i).set rd' j).set rd'' l)⟩
  | [], _, q2 => exact q2.elim
  | [_], _, q2 => exact q2.elim
  | [_, _], _, q2 => exact q2.elim
  | _ :: _ :: _ :: _ :: _, _, q2 => exact q2.elim⟩
end

/-! ### defs -/
def runZ (n len : Nat) (b : Sm) : List D → M D := fun ds S => match Nat.beq ds.length n with
  | true => match b (ds.map some ++ List.replicate (len - n) none) S with
    | .ok (.nx, _) S' => .ok .non S'
    | .ok (.rt d, _) S' => .ok d S'
    | .ok (.xc x, _) S' => .exc x S'
    | _ => .bad
  | false => .bad
theorem ary_runZ {n len : Nat} {b : Sm} : Ary n (runZ n len b) := fun ds S h => by
  unfold runZ
  cases e : Nat.beq ds.length n with
  | true => exact absurd (Nat.eq_of_beq_eq_true e) h
  | false => rfl
theorem RE.start {K : PySem.W.Frag} {m : List Addr} {H : Hp} {ds : List D} {vs : List V} (r : RDs K m H ds vs) (k : Nat) : RE K m H (ds.map some ++ List.replicate k none) (vs.map some ++ List.replicate k none) := by
  refine ⟨by simp [r.length], fun i d e => ?_⟩
  by_cases h : i < ds.length
  · rw [List.getElem?_append_left (by simpa using h), List.getElem?_map] at e
    cases q : ds[i]? with
    | none => rw [q] at e; cases e
    | some d' =>
      rw [q] at e
      cases e
      obtain ⟨v, ev, rv⟩ := r.get q
      exact ⟨v, by rw [List.getElem?_append_left (by simpa [← r.length] using h), List.getElem?_map, ev]; rfl, rv⟩
  · rw [List.getElem?_append_right (by simpa using h), List.getElem?_replicate] at e
    split at e <;> cases e
section
variable {P : Program} {w : World} {K : PySem.W.Frag} {mg : Str → Option Value} {base : Heap}
theorem fn_z {x qual : Str} {params : Arguments} {body : List Stmt} {scope : Scope} {dvs : List V} {kws : List (Str × V)} {f : Addr} {fd : FuncData} {N ps : List Str} {k n : Nat} {b : Sm} (F : FunD K x qual params body scope dvs kws f fd) (Sc : FnScope N ps scope) (hn : ps.length = n)
    (hb : ∀ (cdv : Value) (A : Around) (outer : List PySem.Env) (s : Shared) (H : Hp) (E : XK), Rm k (A.deeper (envOfC qual scope s.heap.objs.size f cdv)) → QSs (cxOf (L2.CX P w) P w K mg base N qual scope f cdv A outer s H E) body b) :
    FnG P w K mg base (k + 1) f fd ps (spZ K mg n (runZ n N.length b)) := by
  have len : ∀ vs H Q E, spZ K mg n (runZ n N.length b) vs H Q E → vs.length = ps.length := fun vs H Q E h => by
    obtain ⟨_, _, _, hl, _⟩ := h
    rw [hl, hn]
  obtain ⟨oc, od, dV, kV, doc, pm, an, cdv, ct, osl, rfl, lk, hcd, _, _⟩ := F.ex
  refine ⟨len, fun A outer s H args us vs Q E hr e0 hbd rv h => LamX.run_ofS (k := k) lk hcd Sc hr.toRoom e0 hbd rv (len _ _ _ _ h) fun hr' => ⟨_, pssw _, ?_⟩⟩
  · obtain ⟨m, S, ds, hl, rs, r, p⟩ := h
    have hd : ds.length = n := by rw [r.length, hl]
    have e : start N vs = vs.map some ++ List.replicate (N.length - n) none := by unfold start; rw [hl]
    rw [e]
    refine (hb cdv A outer s H E ⟨hr', hr.gd⟩).run (fun c d _ H' => E c d H') (takes_of rfl rfl rfl rfl) m S _ _ H _ rs (RE.start r _) ?_
    unfold runZ at p
    rw [hd, show Nat.beq n n = true from Nat.beq_refl n] at p
    cases eb : b (ds.map some ++ List.replicate (N.length - n) none) S with
    | bad => simp only [eb] at p; exact p
    | exc y S' => simp only [eb] at p; exact p
    | ok y S' =>
      obtain ⟨fl, σ'⟩ := y
      cases fl with
      | nx => simp only [eb] at p; exact fun m' H' σv' x' rs' re' => p m' H' x' rs' .non (by simp only [RD])
      | bk => simp only [eb] at p; exact p.elim
      | ct => simp only [eb] at p; exact p.elim
      | rt d => simp only [eb] at p; exact fun m' H' v x' rs' rv => p m' H' x' rs' v rv
      | xc d => simp only [eb] at p; exact fun m' H' σv' c dd x' rs' re' rx => p m' H' c dd x' rs' rx
/-- at level 0 nothing is promised -/
theorem fn_z0 {f : Addr} {fd : FuncData} {ps : List Str} {n : Nat} (hn : ps.length = n) : FnG P w K mg base 0 f fd ps (spZ K mg n (fun _ _ => .bad)) :=
  ⟨fun vs H Q E h => by obtain ⟨_, _, _, hl, _⟩ := h; rw [hl, hn], fun A outer s H args us vs Q E hr e0 hb r h => by obtain ⟨_, _, _, _, _, _, p⟩ := h; exact p.elim⟩
end
/-- a table of bodies: how many parameters, how many names, the body by what is called -/
structure Bd where
  n : Nat
  len : Nat
  b : Orc → Sm
def callZ (bs : Nat → Option Bd) : Nat → Orc
  | 0, _, _ => bad
  | k + 1, i, ds => match bs i with
    | some d => runZ d.n d.len (d.b (callZ bs k)) ds
    | none => bad
end L2.Z

set_option Elab.async false
set_option linter.all false
set_option maxRecDepth 100000
set_option maxHeartbeats 4000000
/-! ZC: small words for printed derivations. -/
namespace L2.Z
open PySem PySem.Spec PyProof.Rows
variable [HasT]

def sBad : Sm := fun _ => bad
theorem qs_bad {X : Cx} {st : Stmt} : QS X st sBad := ⟨fun W tk m S σ σv H Dn rs re p => p.elim⟩
theorem qss_bad {X : Cx} {st : List Stmt} : QSs X st sBad := ⟨fun W tk m S σ σv H Dn rs re p => p.elim⟩
def GlT (n : Nat) (t : Tgs) : Prop := ∀ ds σ σ', t ds σ = some σ' → ds.length = n
theorem gl_nil : GlT 0 gNil' := fun ds σ σ' e => by
  cases ds with
  | nil => rfl
  | cons _ _ => cases e
theorem gl_cons {t : Tg} {u : Tgs} {n : Nat} (h : GlT n u) : GlT (n + 1) (gCons' t u) := fun ds σ σ' e => by
  cases ds with
  | nil => cases e
  | cons d r =>
    cases e1 : t d σ with
    | none => simp only [gCons', e1] at e; cases e
    | some σ1 =>
      simp only [gCons', e1, Option.bind_some] at e
      simp [h _ _ _ e]
theorem pOwn {P : Program} {w : World} {K : PySem.W.Frag} {mg : Str → Option Value} {base : Heap} {N : List Str} {qual : Str} {scope : Scope} {f : Addr} {cdv : Value} {A : Around} {outer : List PySem.Env} {s : Shared} {H : Hp} {E : XK} :
    PassesOwn (model P w) (cxOf (L2.CX P w) P w K mg base N qual scope f cdv A outer s H E).A (cxOf (L2.CX P w) P w K mg base N qual scope f cdv A outer s H E).env (cxOf (L2.CX P w) P w K mg base N qual scope f cdv A outer s H E).xe := passes_of rfl
section
variable {X : Cx} {a b c : Expr} {f g k : Env → M D} {pos : Pos} {op op' : CmpOp} {h h' : F2}
theorem tChain_mono {r r' : R2} {ta tb tc : TE} (ma : ∀ σ H Q Q', ta σ H Q → (∀ v H', Q v H' → Q' v H') → ta σ H Q') : True := trivial
theorem b_chain_val {h h' : F2} (hb' : BoolF h') {f g k : Env → M D} {σ : Env} {S S' : Sto} {d : D} (e : eChain h h' f g k σ S = .ok d S') : ∃ b, d = .bl b := by
  unfold eChain bnd up at e
  cases e1 : f σ S with
  | bad => simp only [e1] at e; cases e
  | exc _ _ => simp only [e1] at e; cases e
  | ok x S1 =>
    simp only [e1] at e
    cases e2 : g σ S1 with
    | bad => simp only [e2] at e; cases e
    | exc _ _ => simp only [e2] at e; cases e
    | ok y S2 =>
      simp only [e2] at e
      cases e3 : h x y S2 with
      | none => simp only [e3] at e; cases e
      | some z =>
        obtain ⟨z, S3⟩ := z
        simp only [e3] at e
        split at e
        · cases e4 : k σ S3 with
          | bad => simp only [e4] at e; cases e
          | exc _ _ => simp only [e4] at e; cases e
          | ok w S4 =>
            simp only [e4] at e
            cases e5 : h' y w S4 with
            | none => simp only [e5] at e; cases e
            | some q =>
              obtain ⟨q, S5⟩ := q
              simp only [e5] at e
              cases e
              exact hb' _ _ _ _ _ e5
        · cases e; exact ⟨_, rfl⟩
        · cases e
theorem qt_chain (hb' : BoolF h') (ho : OpR X (compareOp op) (rF2 X.K h)) (ho' : OpR X (compareOp op') (rF2 X.K h')) (ha : QE X a f) (hb : QE X b g) (hc : QE X c k) (hm : lastMarks [op, op'] [b, c] = false) : QT X (.Compare a [op, op'] [b, c] pos) (tV (eChain h h' f g k)) := ⟨fun W tk m S σ σv H P rs re p => by
  refine wT.of (pt_chain ho ho' (pw a) (pw b) (pw c) hm) ?_
  -- the value is a truth value
  have p2 : PostG X.K X.mg m H (eChain h h' f g k σ S) (fun d S1 m1 H1 => ∃ b, d = .bl b ∧ P b S1 m1 H1) (fun c d H' => W c d σv H') := by
    have p1 := PostG.bnd p
    cases e : eChain h h' f g k σ S with
    | bad => rw [e] at p1; exact p1
    | exc _ _ => rw [e] at p1; exact p1
    | ok d S1 =>
      rw [e] at p1
      obtain ⟨b, rfl⟩ := b_chain_val hb' e
      exact fun m' H' x rs' => ⟨b, rfl, by
        obtain ⟨b', e', q⟩ := (p1 m' H' x rs').truM rs'
        cases e'
        exact q⟩
  have rd := chain_reads ho ho' ha hb hc tk rs re p2
  have fin : ∀ v H', GV X.K m H (fun d S1 m1 H1 => ∃ b, d = .bl b ∧ P b S1 m1 H1) v H' → ∃ kk, v = .bl kk ∧ GB X.K m H P kk H' := by
    rintro v H' ⟨d, S', m', rs', r, x, b, rfl, q⟩
    simp only [RD] at r
    exact ⟨b, r, S', m', rs', x, q⟩
  refine wE.mono rd fun x H1 h1 => wE.mono h1 fun y H2 h2 => ?_
  obtain ⟨m2, S2, d1, d2, d, S', rs2, r1, r2, e, q⟩ := h2
  refine ⟨m2, S2, d1, d2, d, S', rs2, r1, r2, e, fun m' H' v x' rs' rv => ?_⟩
  obtain ⟨kk, rfl, hk⟩ := q m' H' v x' rs' rv
  refine ⟨kk, rfl, ?_⟩
  cases kk with
  | false => exact iteF (fin _ _ (by simpa using hk))
  | true =>
    have hk' : wE X c σv H' fun w' H4 => rF2 X.K h' y w' H4 (GV X.K m H (fun d S1 m1 H1 => ∃ b, d = .bl b ∧ P b S1 m1 H1)) := by simpa using hk
    refine iteT (wE.mono hk' fun z H4 h4 => ?_)
    obtain ⟨m4, S4, d4, d5, d6, S6, rs4, r4, r5, e4, q4⟩ := h4
    exact ⟨m4, S4, d4, d5, d6, S6, rs4, r4, r5, e4, fun m' H' v x' rs' rv => fin _ _ (q4 m' H' v x' rs' rv)⟩⟩
end
/-! ### the built-ins' names -/
theorem bt_int : bootBuiltins "int" = some (.type (Ty.nm .int)) := by decide +kernel
theorem bt_bool : bootBuiltins "bool" = some (.type (Ty.nm .bool)) := by decide +kernel
theorem bt_str : bootBuiltins "str" = some (.type (Ty.nm .str)) := by decide +kernel
theorem bt_tuple : bootBuiltins "tuple" = some (.type (Ty.nm .tuple)) := by decide +kernel
theorem bt_list : bootBuiltins "list" = some (.type (Ty.nm .list)) := by decide +kernel
theorem bt_dict : bootBuiltins "dict" = some (.type (Ty.nm .dict)) := by decide +kernel
theorem bb_len : bootBuiltins "len" = some (.builtin "len") := by decide +kernel
theorem bb_all : bootBuiltins "all" = some (.builtin "all") := by decide +kernel
theorem bb_any : bootBuiltins "any" = some (.builtin "any") := by decide +kernel
theorem bb_sum : bootBuiltins "sum" = some (.builtin "sum") := by decide +kernel
theorem bb_max : bootBuiltins "max" = some (.builtin "max") := by decide +kernel
theorem bb_min : bootBuiltins "min" = some (.builtin "min") := by decide +kernel
theorem bb_abs : bootBuiltins "abs" = some (.builtin "abs") := by decide +kernel
theorem bb_sorted : bootBuiltins "sorted" = some (.builtin "sorted") := by decide +kernel
theorem bb_repr : bootBuiltins "repr" = some (.builtin "repr") := by decide +kernel
/-! ### all defs of a text at a level -/
def KnAll (P : Program) (w : World) (K : PySem.W.Frag) (mg : Str → Option Value) (base : Heap) (tab : Nat → Option (Str × Nat)) (k : Nat) (c : Orc) : Prop := ∀ i x n, tab i = some (x, n) → Kn P w K mg base k x n (c i)
end L2.Z

set_option Elab.async false
set_option linter.all false
set_option maxRecDepth 100000
set_option maxHeartbeats 4000000
/-! ZX: own exception classes over any of the base classes: made with their own __init__. -/
namespace L2.Z
open PySem PySem.Spec PyProof.Rows PySem.Builtin PySem.Builtin.ObjectAttr

/-- own classes, then the mro tl -/
def endsB (tl : List Value) : List Value → Bool
  | [] => false
  | a :: r => (a :: r == tl) || (match a with
    | .ref _ => endsB tl r
    | _ => false)
theorem ends_cases {tl : List Value} {a : Value} {r : List Value} (h : endsB tl (a :: r) = true) : a :: r = tl ∨ ∃ c, a = .ref c ∧ endsB tl r = true := by
  unfold endsB at h
  rcases Bool.or_eq_true_iff.mp h with e | e
  · exact .inl (beq_iff_eq.mp e)
  · cases a with
    | ref c => exact .inr ⟨c, rfl, e⟩
    | _ => exact absurd e (by simp)
theorem ends_pass {tl : List Value} (p : ∀ self, refuseLoop self "__setattr__" tl = pure ()) (self : Value) : ∀ l, endsB tl l = true → refuseLoop self "__setattr__" l = pure ()
  | [], h => by cases h
  | a :: r, h => by
    rcases ends_cases h with e | ⟨c, rfl, e⟩
    · rw [e, p]
    · rw [refuseLoop_ref, ends_pass p self r e]
theorem ends_has {tl : List Value} (y : String) : ∀ l, endsB tl l = true → l.contains (.type y) = tl.contains (.type y)
  | [], h => by cases h
  | a :: r, h => by
    rcases ends_cases h with e | ⟨c, rfl, e⟩
    · rw [e]
    · rw [List.contains_cons, ends_has y r e]
      rfl
theorem ends_some {tl l : List Value} (h : endsB tl l = true) : l.isEmpty = false := by
  cases l with
  | nil => cases h
  | cons _ _ => rfl
/-- a base class of the language -/
structure Bas (B n i : String) (tl : List Value) : Prop where
  F : ExcBaseFacts B n i tl
  pass : ∀ self, refuseLoop self "__setattr__" tl = pure ()
  obj : tl.contains (.type "object") = true
theorem bas_VE : Bas "ValueError" "ValueError.__new__" "ValueError.__init__" PySem.HandSPX.veTail := ⟨F.excBase_ValueError, F.store_ValueError.passes, by decide +kernel⟩
theorem bas_OF : Bas "OverflowError" "OverflowError.__new__" "OverflowError.__init__" [.type "OverflowError", .type "ArithmeticError", .type "Exception", .type "BaseException", .type "object"] := ⟨F.excBase_OverflowError, F.store_OverflowError.passes, by decide +kernel⟩
theorem bas_RT : Bas "RuntimeError" "RuntimeError.__new__" "RuntimeError.__init__" [.type "RuntimeError", .type "Exception", .type "BaseException", .type "object"] := ⟨F.excBase_RuntimeError, F.store_RuntimeError.passes, by decide +kernel⟩

section
variable {prog : Program} {w : World} {A : Around} {R : Result → Shared → Prop} {hp : Heap} {g : Array GenState} {d : Drawn} {t : Nat} {os : OsState} {K : PySem.W.Frag} {f : Str} {tk : Tok} {v : Value} {x C : Addr} {fv : Array Value} {cd : ClassData} {tl : List Value}
/-- object.__setattr__ up to the own dict -/
theorem osa_go {od : Option Addr} {oD : Option Obj} (p : ∀ self, refuseLoop self "__setattr__" tl = pure ()) (ob : tl.contains (.type "object") = true) (X : K.In hp) (I : PySem.W.InstAt hp x { cls := .ref C, dict := od, data := .fields fv } C oD) (hcd : PySem.W.clsIn K C = some cd)
    (hm : endsB tl cd.mro = true) (ha : PySem.W.findIn K (.ref C) f = some none)
    (h : ∀ (E : Value → Shared → Prop) (Q : Fin → Shared → Prop), (∀ s', R (.ok (.ret .none)) s' → Q (.done (.ret .none)) s') → wpAny (model prog w) (A.under (.builtin "object.__setattr__" ⟨[.ref x, .str f tk, v], []⟩)) (storeInOwnDict (.ref x) (.ref C) (.str f tk) f v false) Q E ⟨hp, g, d, t, os⟩) :
    codeAny (model prog w) A (.call (.builtin "object.__setattr__") ⟨[.ref x, .str f tk, v], []⟩) R ⟨hp, g, d, t, os⟩ := by
  have SF := PySem.F.store_object
  have is : PySem.W.Looks (model prog w) hp (isInstance (.ref x) (.type "object")) true := by
    refine I.type.andThen (PySem.W.looks_mroIn X ?_)
    unfold PySem.W.mroIn
    rw [hcd, Option.bind_some, if_neg (by rw [ends_some hm]; decide), ends_has "object" _ hm, ob]
  refine codeAny_call_builtin SF.slot.plain SF.entry (@PySem.W.check_slot (model prog w) _ _ ⟨hp, g, d, t, os⟩ "object.__setattr__" "object" "__setattr__" (.ref x) [.str f tk, v] [] _ SF.kind SF.split is (SF.args (.ref x) (.str f tk) v) ?_)
  have l1 : PySem.W.Looks (model prog w) hp (mroOf (.ref C)) cd.mro := (PySem.W.looks_clsIn X hcd).andThen .now
  have l2 : PySem.W.Looks (model prog w) hp (storeTaker? none) none := .now
  rw [PySem.W.osa_eq, refuse_eq]
  refine wpAny_bind (wpAny_bind (I.type.at (wpAny_bind (l1.at ?_))))
  rw [ends_pass p _ _ hm]
  refine wpAny_pure (wpAny_bind (I.type.at (wpAny_bind ((PySem.W.looks_findIn X ha).at (wpAny_bind (l2.at ?_))))))
  exact h _ _ fun s' r => r
theorem osa_first (p : ∀ self, refuseLoop self "__setattr__" tl = pure ()) (ob : tl.contains (.type "object") = true) (X : K.In hp) (hx : hp.get? x = some { cls := .ref C, data := .fields fv }) (hcd : PySem.W.clsIn K C = some cd) (hm : endsB tl cd.mro = true) (hh : cd.hasDict = true)
    (ha : PySem.W.findIn K (.ref C) f = some none)
    (hq : ∀ h' tk' dx, (∀ b o, b ≠ x → hp.get? b = some o → h'.get? b = some o) → hp.objs.size ≤ dx → dx ≠ x → h'.get? x = some { cls := .ref C, dict := some dx, data := .fields fv } → h'.Ns1 dx (fun y => if y = f then some v else none) → R (.ok (.ret .none)) ⟨h', g, d, tk', os⟩) :
    codeAny (model prog w) A (.call (.builtin "object.__setattr__") ⟨[.ref x, .str f tk, v], []⟩) R ⟨hp, g, d, t, os⟩ := by
  refine osa_go (od := none) (oD := none) p ob X ⟨hx, rfl, rfl, trivial⟩ hcd hm ha fun E Q fin => ?_
  have lc : PySem.W.Looks (model prog w) hp (classData C) cd := PySem.W.looks_clsIn X hcd
  have ne : x ≠ hp.objs.size := Nat.ne_of_lt (Heap.lt_size hx)
  obtain ⟨nm, bs, mro, ns, qn, hd, sn, sb, ab, col, dl⟩ := cd
  dsimp only at hh
  subst hh
  unfold storeInOwnDict ownDictForStores
  repeat (first | with_reducible refine PySem.HandSPX.store_in_new ?_ ?_ | with_reducible refine wpAny_loadPart_at hx ?_ | with_reducible refine lc.at ?_ | wp_step)
  · exact ⟨_, #[], _, (Heap.get?_update_ne _ _ _ _ ne.symm).trans (Heap.get?_push_at rfl rfl), rfl, fun e he => absurd he (by simp), fun _ => rfl⟩
  · intro h' tk' n s
    have hx' : (hp.push { cls := .type "dict", data := .dict #[] }).get? x = some { cls := .ref C, data := .fields fv } := Heap.get?_push_of_some _ hx
    refine fin _ (hq h' tk' hp.objs.size (fun b o hb ho => ?_) (Nat.le_refl _) ne.symm ?_ n)
    · have hb' : b ≠ hp.objs.size := Nat.ne_of_lt (Heap.lt_size ho)
      rw [s.2 b hb', Heap.get?_update_ne _ _ _ _ hb]
      exact Heap.get?_push_of_some _ ho
    · rw [s.2 x ne]
      exact Heap.get?_update_self _ hx' rfl
theorem osa_more {dx : Addr} {m0 : Str → Option Value} {nl : List Str} (p : ∀ self, refuseLoop self "__setattr__" tl = pure ()) (ob : tl.contains (.type "object") = true) (X : K.In hp) (hx : hp.get? x = some { cls := .ref C, dict := some dx, data := .fields fv }) (hn : hp.Ns1 dx m0) (hw : Within m0 nl) (hz : nl.length ≤ 1000)
    (hcd : PySem.W.clsIn K C = some cd) (hm : endsB tl cd.mro = true) (hh : cd.hasDict = true) (ha : PySem.W.findIn K (.ref C) f = some none)
    (hq : ∀ h' tk', (∀ b o, b ≠ dx → hp.get? b = some o → h'.get? b = some o) → h'.Ns1 dx (fun y => if y = f then some v else m0 y) → R (.ok (.ret .none)) ⟨h', g, d, tk', os⟩) :
    codeAny (model prog w) A (.call (.builtin "object.__setattr__") ⟨[.ref x, .str f tk, v], []⟩) R ⟨hp, g, d, t, os⟩ := by
  obtain ⟨oD, _, _, hoD, _, _⟩ := hn.count hw
  refine osa_go (od := some dx) (oD := some oD) p ob X ⟨hx, rfl, rfl, hoD⟩ hcd hm ha fun E Q fin => ?_
  have lc : PySem.W.Looks (model prog w) hp (classData C) cd := PySem.W.looks_clsIn X hcd
  obtain ⟨nm, bs, mro, ns, qn, hd, sn, sb, ab, col, dl⟩ := cd
  dsimp only at hh
  subst hh
  unfold storeInOwnDict ownDictForStores
  repeat (first | with_reducible refine PySem.OEX.store_in_old hn hw hz ?_ | with_reducible refine wpAny_loadPart_at hx ?_ | with_reducible refine lc.at ?_ | wp_step)
  intro h' tk' n s
  exact fin _ (hq h' tk' (fun b o hb ho => (s.2 b hb).trans ho) n)
end

/-! ### over the abstract heap -/
/-- what the written part says of the class at C -/
structure OxC (K : PySem.W.Frag) (n : String) (tl : List Value) (C : Addr) : Prop where
  cls : ∃ nm q N bs bm sn sub ab col dd k0 k1 k2 k3 k5, K.lookup C = some (excClassObj nm q C N bs bm true sn sub ab col dd k0 k1 k2 k3 k5 n) ∧ endsB tl bm = true
  sa : PySem.W.findIn K (.ref C) "__setattr__" = some (some (.builtin "object.__setattr__"))
  exC : PySem.W.subIn K (.ref C) (.type "BaseException") = some true
  tyC : PySem.W.typeIn K (.ref C) = some (.type "type")
  kC : PySem.W.keepIn K (.ref C) = true
theorem ends_ref {tl bm : List Value} {C : Addr} (h : endsB tl bm = true) : endsB tl (.ref C :: bm) = true := by
  show ((Value.ref C :: bm == tl) || endsB tl bm) = true
  rw [h, Bool.or_true]
theorem OxC.cd {K : PySem.W.Frag} {n : String} {tl : List Value} {C : Addr} (T : OxC K n tl C) : ∃ cd, PySem.W.clsIn K C = some cd ∧ endsB tl cd.mro = true ∧ cd.hasDict = true := by
  obtain ⟨nm, q, N, bs, bm, sn, sub, ab, col, dd, k0, k1, k2, k3, k5, hC, hb⟩ := T.cls
  refine ⟨{ name := nm, bases := bs, mro := .ref C :: bm, ns := N, qualname := q, hasDict := true, slotNames := sn, subclasses := sub, abstract := ab, collection := col, hasDel := false }, ?_, ends_ref hb, rfl⟩
  unfold PySem.W.clsIn
  rw [hC]
section
variable {X : Cx} {pins : List (Addr × Obj)} {σ : St} {H : Hp} {s : Shared} {a C dx : Addr} {f : Str} {y : V} {u : Value} {fs : List (Str × V)} {Q : Unit → Shared → Prop} {E : Value → Shared → Prop} {A : Around} {B n i : String} {tl : List Value}
theorem xst_new (b : Bas B n i tl) (T : OxC X.K n tl C) (I : Inv X pins σ H s) (e : H a = some (exo a C none)) (hno : PySem.W.findIn X.K (.ref C) f = some none) (ry : RelV y u)
    (h : ∀ dx s', H dx = none → dx ≠ a → Inv X pins σ (upd (upd H dx (exd dx [(f, y)])) a (exo a C (some dx))) s' → Q () s') : wpAny (model X.prog X.w) A (setAttr (.ref a) f u) Q E s := by
  obtain ⟨cd, hcl, hm, hh⟩ := T.cd
  obtain ⟨t1, ho⟩ := exo_at I.hok e
  obtain ⟨hp, g, d, t, os⟩ := s
  refine PySem.W.set_plain I.kIn (ox := { cls := .ref C, dict := none, data := .fields #[.ref t1, .none, .none, .none, .bool false, .none] }) (od := none) ⟨ho, rfl, rfl, trivial⟩ T.sa ?_
  refine osa_first b.pass b.obj I.kIn ho hcl hm hh hno fun h' tk' dx k dn dne hx hn => ?_
  have nD : H dx = none := I.hok.fresh dn
  have neD : ∀ {c : Addr} {o : Obj}, hp.get? c = some o → c ≠ dx := fun {c o} q => Nat.ne_of_lt (Nat.lt_of_lt_of_le (Heap.lt_size q) dn)
  have neA : ∀ {c : Addr}, H c = none → c ≠ a := fun {c} n z => by subst z; rw [e] at n; cases n
  have U : Un X.fs [] H (upd (upd H dx (exd dx [(f, y)])) a (exo a C (some dx))) hp h' :=
    ⟨fun c o q n _ _ => k c o (neA n) q, fun c o q n _ _ => ⟨o.slots, k c o (neA n) q⟩, fun c o q n _ => by rw [upd_ne (neA n), upd_ne (neD q)]; exact n,
     fun c o q _ => by
      by_cases hc : c = a
      · subst hc; exact ⟨_, hx⟩
      · exact ⟨o, k c o hc q⟩,
     fun c xs q => by rw [upd_ne (at_ne e q exo_tup), upd_ne (ne_of_none q nD)]; exact q,
     fun c o v q => by rw [upd_ne (at_ne e q exo_frz), upd_ne (ne_of_none q nD)]; exact q,
     fun c ps q => ⟨#[], by rw [upd_ne (at_ne e q exo_tbl), upd_ne (ne_of_none q nD), q]; simp⟩⟩
  refine h dx _ nD dne (I.un (t' := tk') U fun c o q => ?_)
  by_cases hc : c = a
  · subst hc
    rw [upd_same] at q
    cases q
    exact exo_ok hx
  rw [upd_ne hc] at q
  by_cases hd : c = dx
  · subst hd
    rw [upd_same] at q
    cases q
    exact exd_ok hn (relO_put (fs := []) ry fun g => True.intro)
  rw [upd_ne hd] at q
  refine (I.hok c o q).stay (fun c' v hc' z => k c' v ?_ z) (fun c' hc' => by rw [upd_ne (at_ne e hc' exo_own), upd_ne (ne_of_none hc' nD)]; exact hc') (fun c' xs hc' => by rw [upd_ne (at_ne e hc' exo_tup), upd_ne (ne_of_none hc' nD)]; exact hc')
  rcases hc' with z | z
  · rw [z]; exact hc
  · exact at_ne e z exo_own
theorem xst_old (b : Bas B n i tl) (T : OxC X.K n tl C) (I : Inv X pins σ H s) (e : H a = some (exo a C (some dx))) (ed : H dx = some (exd dx fs)) (hl : fs.length ≤ 900) (hno : PySem.W.findIn X.K (.ref C) f = some none) (ry : RelV y u)
    (h : ∀ s', Inv X pins σ (upd H dx (exd dx ((f, y) :: fs))) s' → Q () s') : wpAny (model X.prog X.w) A (setAttr (.ref a) f u) Q E s := by
  obtain ⟨cd, hcl, hm, hh⟩ := T.cd
  obtain ⟨t1, ho⟩ := exo_at I.hok e
  obtain ⟨mA, hns, rel⟩ := exd_at I.hok ed
  obtain ⟨hp, g, d, t, os⟩ := s
  obtain ⟨oD, _, _, hoD, _, _⟩ := hns.count (within_of rel)
  refine PySem.W.set_plain I.kIn (ox := { cls := .ref C, dict := some dx, data := .fields #[.ref t1, .none, .none, .none, .bool false, .none] }) (od := some oD) ⟨ho, rfl, rfl, hoD⟩ T.sa ?_
  refine osa_more b.pass b.obj I.kIn ho hns (within_of rel) (by rw [List.length_map]; omega) hcl hm hh hno fun h' tk' k hn => ?_
  refine h _ (I.write (t' := tk') (x := dx) (e := dx) (o := exd dx ((f, y) :: fs)) (by rw [ed]; exact True.intro) (.inl rfl) k ?_ (exd_ok hn (relO_put ry rel)))
  obtain ⟨o, _, _, z, _⟩ := hn
  exact ⟨o, z⟩
/-- Base.__init__(self, ..) -/
theorem xinit_ok {us : List Value} {Q : Value → Shared → Prop} (b : Bas B n i tl) (T : OxC X.K n tl C) (I : Inv X pins σ H s) (e : H a = some (exo a C none)) (hl : us.length ≤ sizeLine) (h : ∀ s', Inv X pins σ H s' → Q .none s') :
    wpAny (model X.prog X.w) A (call (.builtin i) (.ref a :: us)) Q E s := by
  obtain ⟨nm, q, N, bs, bm, sn, sub, ab, col, dd, k0, k1, k2, k3, k5, hC, hb⟩ := T.cls
  obtain ⟨t1, ho⟩ := exo_at I.hok e
  obtain ⟨hp, g, d, t, os⟩ := s
  refine wpAny_call (PySem.HandSPX.init_base b.F (fun Y => ends_has Y bm hb) (I.kIn _ _ hC) ho hl fun h' t2 k hx => h _ ?_)
  have J := I.write (t' := t) (x := a) (e := a) (o := exo a C none) (by rw [e]; exact True.intro) (.inl rfl) k ⟨_, hx⟩ (exo_ok hx)
  have eu : upd H a (exo a C none) = H := funext fun c => by
    by_cases hc : c = a
    · subst hc; rw [upd_same, e]
    · rw [upd_ne hc]
  rw [eu] at J
  exact J
end

/-! ### readings -/
def tXi (K : PySem.W.Frag) (n : String) (tl : List Value) (ta : TA) : TE := fun σ H Q => ta σ H fun vs H1 => ∃ (a C : Addr) (ws : List V), vs = .ref a :: ws ∧ ws.length ≤ 1000 ∧ OxC K n tl C ∧ H1 a = some (exo a C none) ∧ Q .non H1
def tXs (K : PySem.W.Frag) (n : String) (tl : List Value) (f : Str) (to te : TE) : TS := fun D σ H => te σ H fun y H1 => to σ H1 fun x H2 => ∃ a C : Addr, x = .ref a ∧ OxC K n tl C ∧ PySem.W.findIn K (.ref C) f = some none ∧
  ((H2 a = some (exo a C none) ∧ ∀ dx, H2 dx = none → dx ≠ a → D.nx σ (upd (upd H2 dx (exd dx [(f, y)])) a (exo a C (some dx)))) ∨
    ∃ (dx : Addr) (fs : List (Str × V)), H2 a = some (exo a C (some dx)) ∧ H2 dx = some (exd dx fs) ∧ fs.length ≤ 900 ∧ D.nx σ (upd H2 dx (exd dx ((f, y) :: fs))))
/-- what the written part says of the base that __init__ calls: an own class -/
structure OwnB (K : PySem.W.Frag) (mg : Str → Option Value) (x : Str) (i : String) (Q : Addr) : Prop where
  g : mg x = some (.ref Q)
  sp : PySem.W.specialIn K (.ref Q) "__getattribute__" = some (some (.builtin "type.__getattribute__"))
  ty : PySem.W.typeIn K (.ref Q) = some (.type "type")
  rd : PySem.W.readsIn K Q (.type "type") = true
  at_ : PySem.W.findCls K (.ref Q) (.type "type") "__init__" = some (.val (.builtin i))
  hd : PySem.W.handedIn (.builtin i) = true
section
variable {X : Cx} {o e : Expr} {es : List Expr} {to te : TE} {ta : TA} {f x : Str} {p p' p1 p2 pos : Pos} {B n i : String} {tl : List Value}
theorem pe_xinit {pl : Sem Bool} {Q : Addr} (b : Bas B n i tl) (hg : Gl X x) (O : OwnB X.K X.mg x i Q) (ha : PA X (e :: es) ta) (hdb : (x == ("__debug__" : Str)) = false := by decide)
    (hc : eval (.Call (.Attribute (.Name x p1) "__init__" p2) (e :: es) [] pos) X.env = (do
      let ov ← eval (.Name x p1) X.env
      standAt p2.atName
      let (f, first) ← holding [ov] (getMethod ov "__init__" pl)
      callWith pos f first (backTo pos (starEach (e :: es) X.env)) (backToKw pos (keywordEach [] X.env))) := by rfl)
    (he : starEach (e :: es) X.env = (false, eval e X.env) :: starEach es X.env := by rfl) (hpl : (backTo pos (starEach es X.env)).any (·.1) = false := by rfl) :
    PE X (.Call (.Attribute (.Name x p1) "__init__" p2) (e :: es) [] pos) (tXi X.K n tl ta) := by
  refine ⟨fun pins s σ H Q' I h => ?_⟩
  refine PySem.W.methodCall_KW (ld_glob I hg O.g ?_ hdb) hc
  obtain ⟨m, fr⟩ := I.fr
  refine PySem.W.method_of_cls fr I.ok.mod.kin O.sp (PySem.W.cls_val fr I.ok.mod.kin O.ty O.rd O.at_ O.hd ?_)
  refine PyProof.Rows.callWith_method1 (thn (ha.run pos pins _ σ H _ (I.tok _) h) fun us s1 ⟨vs, H1, I1, r1, a, C, ws, ev, hl, T, ea, q⟩ => ?_) he hpl
  subst ev
  cases r1 with
  | @cons _ u0 _ ur ra rw' =>
    have ea' : u0 = Value.ref a := ra
    subst ea'
    refine xinit_ok b T I1 ea ?_ fun s' J => ⟨.non, H1, J, rfl, q⟩
    have := Paired.length rw'
    rw [sizeLine_eq]
    omega
theorem pe_xinitB {pl : Sem Bool} (b : Bas B n i tl) (hg : Gl X x) (hm : X.mg x = none) (hv : bootBuiltins x = some (.type B)) (ht : typeOf (.type B) = pure (.type "type")) (hst : Manifest.isStub B = false) (at_ : PySem.W.findCls X.K (.type B) (.type "type") "__init__" = some (.val (.builtin i))) (hh : PySem.W.handedIn (.builtin i) = true)
    (ha : PA X (e :: es) ta) (hnn : x ≠ "__name__" := by decide) (hdb : (x == ("__debug__" : Str)) = false := by decide)
    (hc : eval (.Call (.Attribute (.Name x p1) "__init__" p2) (e :: es) [] pos) X.env = (do
      let ov ← eval (.Name x p1) X.env
      standAt p2.atName
      let (f, first) ← holding [ov] (getMethod ov "__init__" pl)
      callWith pos f first (backTo pos (starEach (e :: es) X.env)) (backToKw pos (keywordEach [] X.env))) := by rfl)
    (he : starEach (e :: es) X.env = (false, eval e X.env) :: starEach es X.env := by rfl) (hpl : (backTo pos (starEach es X.env)).any (·.1) = false := by rfl) :
    PE X (.Call (.Attribute (.Name x p1) "__init__" p2) (e :: es) [] pos) (tXi X.K n tl ta) := by
  refine ⟨fun pins s σ H Q' I h => ?_⟩
  refine PySem.W.methodCall_KW (ld_blt I hg hm hv ?_ hnn hdb) hc
  obtain ⟨m, fr⟩ := I.fr
  refine PySem.W.method_type fr I.ok.mod.kin ht hst at_ hh ?_
  refine PyProof.Rows.callWith_method1 (thn (ha.run pos pins _ σ H _ (I.tok _) h) fun us s1 ⟨vs, H1, I1, r1, a, C, ws, ev, hl, T, ea, q⟩ => ?_) he hpl
  subst ev
  cases r1 with
  | @cons _ u0 _ ur ra rw' =>
    have ea' : u0 = Value.ref a := ra
    subst ea'
    refine xinit_ok b T I1 ea ?_ fun s' J => ⟨.non, H1, J, rfl, q⟩
    have := Paired.length rw'
    rw [sizeLine_eq]
    omega
theorem ps_xst (b : Bas B n i tl) (ho : PE X o to) (he : PE X e te) (hs : swapsWith e (some (.Attribute o f p')) pos.line X.env = pure false := by rfl) : PS X (.Assign [.Attribute o f p'] e pos) (tXs X.K n tl f to te) := by
  refine ⟨fun pins s σ H D I h => ?_⟩
  refine plainObj_wpAny_Assign_Attribute (thn (he.run pins s σ H _ I h) fun v s1 ⟨y, H1, I1, r1, q1⟩ => ?_) hs
  refine thn (ho.run pins s1 σ H1 _ I1 q1) fun u s2 ⟨x, H2, I2, r2, a, C, ex, T, hno, q⟩ => ?_
  subst ex
  have ea : u = Value.ref a := r2
  subst ea
  rcases q with ⟨e1, q⟩ | ⟨dx, fs, e1, e2, hl, q⟩
  · exact xst_new b T I2 e1 hno r1 fun dx s' n ne J => ⟨σ, _, J, q dx n ne⟩
  · exact xst_old b T I2 e1 e2 hl hno r1 fun s' J => ⟨σ, _, J, q⟩
/-- C(e, ..), C's own __init__ keeping sp -/
theorem pmk_x {CX : CXT} {C fI : Addr} {k : Nat} {fd : FuncData} {ps : List Str} {sp : Sp} (b : Bas B n i tl) (T : OxC X.K n tl C) (iC : PySem.W.findIn X.K (.ref C) "__init__" = some (some (.ref fI))) (tI : PySem.W.typeIn X.K (.ref fI) = some (.type "function"))
    (F1 : FnOk X.prog X.w X.K X.mg X.base CX k fI fd ps sp) (hr : Room (k + 1) X.A) (hb : Binds X.K fd ps []) (hx : Passes CX X (fun _ _ _ => False)) (hg : Gl X x) (hm : X.mg x = some (.ref C)) (ha : PA X (e :: es) ta)
    (hdb : (x == ("__debug__" : Str)) = false := by decide) (he : starEach (e :: es) X.env = (false, eval e X.env) :: starEach es X.env := by rfl) (hpl : (backTo pos (starEach es X.env)).any (·.1) = false := by rfl) :
    PMk X (.Call (.Name x p) (e :: es) [] pos) (tMkO C sp [] ta) := by
  intro pins s σ H Q I h
  obtain ⟨nm, q, N, bs, bm, sn, sub, ab, col, dd, k0, k1, k2, k3, k5, hC, hbm⟩ := T.cls
  refine wpAny_Call_Name_kw (ld_glob I hg hm ?_ hdb)
  refine PySem.W.callWith_K (h₀ := X.base) I.ok.mod.kin T.kC (thn (ha.run pos pins s σ H _ I h) fun us s1 ⟨vs, H1, I1, r1, hz, q1⟩ => ⟨I1.kIn, ?_⟩) he hpl
  show wpAny _ _ (call (.ref C) us) _ _ _
  obtain ⟨hp, g, dr, tk, os⟩ := s1
  generalize ew : hp.objs.size + 1 = a at *
  have ha1 : hp.objs.size ≤ a := by omega
  have nH : H1 a = none := I1.hok.fresh ha1
  have hq := q1 a nH
  generalize eh : (hp.push (PySem.W.kdv_tup us)).push (PySem.HandSPX.excO C hp.objs.size) = h2
  have kk : ∀ c o, hp.get? c = some o → h2.get? c = some o := fun c o z => by rw [← eh]; exact Heap.get?_push_of_some _ (Heap.get?_push_of_some _ z)
  have at2 : h2.get? a = some (PySem.HandSPX.excO C hp.objs.size) := by rw [← eh, ← ew]; heap_get
  have I2 : Inv X pins σ (upd H1 a (exo a C none)) ⟨h2, g, dr, tk, os⟩ := I1.laid (t' := tk) (a := a) (o := exo a C none) (h' := h2) kk ha1 (exo_ok at2)
  have r2 : Vals (V.ref a :: (vs ++ [])) (Value.ref a :: (us ++ [])) := .cons rfl (r1.append .nil)
  have hl : (Value.ref a :: us ++ []).length = ps.length := by
    rw [← F1.len _ _ _ _ hq]
    exact r2.length.symm
  have hus : us.length ≤ sizeLine := by
    have := Paired.length r1
    rw [sizeLine_eq]
    omega
  refine wpAny_call (PySem.HandSPX.call_own b.F (fun Y => ends_has Y bm hbm) (I1.kIn _ _ hC) (PySem.W.looks_findIn I1.kIn iC) (fun self => PySem.W.bind_fn I1.kIn self tI) hus ?_)
  rw [ew, eh]
  refine codeAny_mono (F1.run _ X.stack _ _ ⟨Value.ref a :: us, []⟩ (Value.ref a :: (us ++ [])) _ _ (fun _ _ _ => False) (hr.make C us []) (I2.env0.make C us []) (by have z := hb ⟨h2, g, dr, tk, os⟩ (Value.ref a :: us) I2.kIn hl; rw [List.cons_append] at z; exact z) r2 hq) fun r s' hq' => ?_
  cases r with
  | error er => exact hx pins σ _ _ er s' I2 hq'
  | ok fl =>
    cases fl with
    | ret u =>
      obtain ⟨v, H2, os2, bare2, un2, hok2, rv, ev, d, fs, ea, ed, hd1, q2⟩ := hq'
      subst ev
      obtain ⟨h3, g2, d2, t2, os'⟩ := s'
      exact ⟨rv, mk_end (raises_own T.exC T.tyC) I1 ha1 kk un2 hok2 os2 bare2 ea ed hd1 q2⟩
    | next => exact False.elim hq'
    | brk => exact False.elim hq'
    | cont => exact False.elim hq'
end
end L2.Z

set_option Elab.async false
set_option linter.all false
set_option maxRecDepth 100000
set_option maxHeartbeats 4000000
/-! ZY: own exceptions: their __init__, raise. -/
namespace L2.Z
open PySem PySem.Spec PyProof.Rows
variable [HasT]

/-- what an own __init__ does: the fields fs, in turn -/
def spI (C : Addr) (fs : List Str) : Sp := fun vs H Q _ => ∃ (a : Addr) (ys : List V), vs = .ref a :: ys ∧ ys.length = fs.length ∧ H a = some (exo a C none) ∧ ∀ dx, H dx = none → dx ≠ a → Q .non (upd (upd H dx (exd dx (fs.zip ys).reverse)) a (exo a C (some dx)))
/-- the written part's say on a class x made with the fields fs -/
structure KX (P : Program) (w : World) (K : PySem.W.Frag) (mg : Str → Option Value) (base : Heap) (x : Str) (fs : List Str) : Prop where
  ex : ∃ B n i tl fI fd ps, Bas B n i tl ∧ OxC K n tl (He.ga K x) ∧ mg x = some (.ref (He.ga K x)) ∧ PySem.W.findIn K (.ref (He.ga K x)) "__init__" = some (some (.ref fI)) ∧ PySem.W.typeIn K (.ref fI) = some (.type "function") ∧
    FnOk P w K mg base (L2.CX P w) 1 fI fd ps (spI (He.ga K x) fs) ∧ Binds K fd ps []
/-- raise x(..) -/
def sRaise (x : Str) (fs : List Str) (g : Env → M (List D)) : Sm := fun σ => sE (g σ) σ fun ds => match Nat.beq ds.length fs.length with
  | true => ret (.xc ⟨x, fs.reverse, ds.reverse⟩, σ)
  | false => bad
theorem RDs.app {K : PySem.W.Frag} {m : List Addr} {H : Hp} : ∀ {a c : List D} {b d : List V}, RDs K m H a b → RDs K m H c d → RDs K m H (a ++ c) (b ++ d)
  | [], c, b, d, h, q => by
    simp only [RDs] at h
    subst h
    exact q
  | x :: a, c, b, d, h, q => by
    simp only [RDs] at h
    obtain ⟨v, r, rfl, rd, rr⟩ := h
    simp only [List.cons_append, RDs]
    exact ⟨v, r ++ d, rfl, rd, RDs.app rr q⟩
theorem RDs.rev {K : PySem.W.Frag} {m : List Addr} {H : Hp} : ∀ {a : List D} {b : List V}, RDs K m H a b → RDs K m H a.reverse b.reverse
  | [], b, h => by
    simp only [RDs] at h
    subst h
    simp [RDs]
  | x :: a, b, h => by
    simp only [RDs] at h
    obtain ⟨v, r, rfl, rd, rr⟩ := h
    simp only [List.reverse_cons]
    exact RDs.app (RDs.rev rr) (by simp only [RDs]; exact ⟨v, [], rfl, rd, rfl⟩)
theorem zip_rev {α β : Type} : ∀ (a : List α) (b : List β), a.length = b.length → (a.zip b).reverse = a.reverse.zip b.reverse
  | [], b, h => by simp
  | x :: a, [], h => by cases h
  | x :: a, y :: b, h => by
    simp only [List.length_cons, Nat.add_right_cancel_iff] at h
    simp only [List.zip_cons_cons, List.reverse_cons]
    rw [zip_rev a b h, List.zip_append (by simp [h])]
    rfl
section
variable {X : Cx} {e : Expr} {es : List Expr} {g : Env → M (List D)} {x : Str} {fs : List Str} {p pos pos' : Pos} {k : Nat}
theorem qs_raise (F : KX X.prog X.w X.K X.mg X.base x fs) (hr : Rm k X.A) (h2 : 2 ≤ k) (hc : X.calm = true) (ha : QA X (e :: es) g) (hg : glB X.env.scope x = true := by kernel_rfl) (he : PySem.W.isStarred e = false := by rfl) (hpl : es.any PySem.W.isStarred = false := by rfl) (hlen : fs.length ≤ 1000 := by decide) :
    QS X (.Raise (some (.Call (.Name x p) (e :: es) [] pos)) none pos') (sRaise x fs g) := ⟨fun W tk m S σ σv H Dn rs re p => by
  obtain ⟨B, n, i, tl, fI, fd, ps, b, T, hm, iC, tI, F1, hb⟩ := F.ex
  generalize eC : He.ga X.K x = C at *
  refine wS.of (ps_raise hc tk (pmk_x b T iC tI F1 (hr.mono h2).toRoom hb (passes_call tk fun _ _ _ _ z => z.elim) (glB_ok hg).1 hm (paw (e :: es)) (glB_ok hg).2.1 (star1 he) (star2 hpl))) ?_
  intro pos' pins' s' I'
  refine thn (ha.run W tk m S σ σv H _ rs re (PostS.sE re p) pos' pins' s' I') ?_
  rintro us s2 ⟨vs, H2, I2, rv, ds, S2, m2, rs2, r2, x2, q2⟩
  refine ⟨vs, H2, I2, rv, ?_⟩
  cases el : Nat.beq ds.length fs.length with
  | false => rw [el] at q2; exact q2.elim
  | true =>
    rw [el] at q2
    have hl : vs.length = fs.length := by rw [← r2.length]; exact Nat.eq_of_beq_eq_true el
    refine ⟨by rw [hl]; exact hlen, fun a na => ?_⟩
    rw [List.append_nil]
    refine ⟨a, vs, rfl, hl, upd_same, fun dx nd ne => ⟨rfl, dx, (fs.zip vs).reverse, upd_same, ?_, ?_, ?_⟩⟩
    · rw [upd_ne ne, upd_same]
    · rw [upd_ne ne] at nd; exact nd
    · rw [upd_ne ne] at nd
      have key : upd (del (upd (upd (upd H2 a (exo a C none)) dx (exd dx (fs.zip vs).reverse)) a (exo a C (some dx))) a) dx (.xd (fs.zip vs).reverse) = upd H2 dx (.xd (fs.zip vs).reverse) := by
        funext c
        by_cases hd : c = dx
        · subst hd; rw [upd_same, upd_same]
        · rw [upd_ne hd, upd_ne hd]
          by_cases hc : c = a
          · subst hc; rw [del_same, na]
          · rw [del_ne hc, upd_ne hc, upd_ne hd, upd_ne hc]
      rw [key]
      have xx : Ext m2 H2 m2 (upd H2 dx (.xd (fs.zip vs).reverse)) := .new nd
      exact q2 m2 _ σv _ _ xx (rs2.new nd) ((re.mono x2).mono xx) ⟨dx, vs.reverse, by rw [eC]; exact hm, by rw [eC], rfl, by rw [upd_same, zip_rev fs vs hl.symm], RDs.rev (RDs.mono xx _ _ r2)⟩⟩
end

/-! ### an own __init__ walked -/
section
variable {P : Program} {w : World} {K : PySem.W.Frag} {mg : Str → Option Value} {base : Heap} {qual bn sf pr pr2 f1 f2 m : Str} {params : Arguments} {scope : Scope} {fI C : Addr} {fd : FuncData} {B n i : String} {tl : List Value}
  {p1 p2 p3 p4 p5 p6 p7 p8 p9 p10 p11 p12 p13 p14 : Pos} {j : Nat}
abbrev iCall (bn sf m : Str) (j : Nat) (p1 p2 p3 p4 p5 p6 : Pos) : Stmt := .Expr (.Call (.Attribute (.Name bn p1) "__init__" p2) [.Name sf p3, .Constant (.str m) j p4] [] p5) p6
abbrev iSet (sf f pr : Str) (p1 p2 p3 p4 : Pos) : Stmt := .Assign [.Attribute (.Name sf p1) f p2] (.Name pr p3) p4
/-- how the base is called there -/
def BaseCall (P : Program) (w : World) (K : PySem.W.Frag) (mg : Str → Option Value) (base : Heap) (bn sf : Str) (n : String) (tl : List Value) (N : List Str) (qual : Str) (scope : Scope) (fI : Addr) : Prop :=
  ∀ (cdv : Value) (A : Around) (outer : List PySem.Env) (s : Shared) (H : Hp) (E : XK) (m : Str) (j : Nat) (p1 p2 p3 p4 p5 : Pos) (ta : TA), (p2.endLine == p5.line) = true →
    PA (cxOf (L2.CX P w) P w K mg base N qual scope fI cdv A outer s H E) [.Name sf p3, .Constant (.str m) j p4] ta →
    PE (cxOf (L2.CX P w) P w K mg base N qual scope fI cdv A outer s H E) (.Call (.Attribute (.Name bn p1) "__init__" p2) [.Name sf p3, .Constant (.str m) j p4] [] p5) (tXi K n tl ta)
theorem init_1 (b : Bas B n i tl) (T : OxC K n tl C) (h1 : PySem.W.findIn K (.ref C) f1 = some none) (F : FunD K "__init__" qual params [iCall bn sf m j p1 p2 p3 p4 p5 p6, iSet sf f1 pr p7 p8 p9 p10] scope [] [] fI fd) (Sc : FnScope [sf, pr] [sf, pr] scope) (nm : NmOk [sf, pr])
    (hln : (p2.endLine == p5.line) = true) (vs : visB scope sf = true) (vp : visB scope pr = true) (BC : BaseCall P w K mg base bn sf n tl [sf, pr] qual scope fI) : FnOk P w K mg base (L2.CX P w) 1 fI fd [sf, pr] (spI C [f1]) := by
  have n1 := nm sf (by simp)
  have n2 := nm pr (by simp)
  refine F.ok Sc (fun vs H Q E h => ?_) (fun cdv A outer s H xs Q E hr h => ?_)
  · obtain ⟨a, ys, rfl, hl, _⟩ := h
    simpa using hl
  obtain ⟨a, ys, rfl, hl, ha, q⟩ := h
  match ys, hl, q with
  | [y], _, q =>
    refine ⟨_, pss_cons (ps_expr (BC cdv A outer s H E m j p1 p2 p3 p4 p5 _ hln (pa_cons (pe_var (i := 0) rfl (visB_ok vs) n1.1 n1.2) (pa_cons pe_str pa_nil)))) (pss_one (ps_xst (p' := p8) b (pe_var (i := 0) rfl (visB_ok vs) n1.1 n1.2) (pe_var (i := 1) rfl (visB_ok vp) n2.1 n2.2))), ?_⟩
    refine ⟨.ref a, rfl, a, C, [.str m], rfl, by simp, T, ha, ?_⟩
    exact ⟨y, rfl, .ref a, rfl, a, C, rfl, T, h1, .inl ⟨ha, fun dx nd ne => q dx nd ne⟩⟩
theorem init_2 (b : Bas B n i tl) (T : OxC K n tl C) (h1 : PySem.W.findIn K (.ref C) f1 = some none) (h2 : PySem.W.findIn K (.ref C) f2 = some none)
    (F : FunD K "__init__" qual params [iCall bn sf m j p1 p2 p3 p4 p5 p6, iSet sf f1 pr p7 p8 p9 p10, iSet sf f2 pr2 p11 p12 p13 p14] scope [] [] fI fd) (Sc : FnScope [sf, pr, pr2] [sf, pr, pr2] scope) (nm : NmOk [sf, pr, pr2])
    (hln : (p2.endLine == p5.line) = true) (vs : visB scope sf = true) (vp : visB scope pr = true) (vp2 : visB scope pr2 = true) (BC : BaseCall P w K mg base bn sf n tl [sf, pr, pr2] qual scope fI) : FnOk P w K mg base (L2.CX P w) 1 fI fd [sf, pr, pr2] (spI C [f1, f2]) := by
  have n1 := nm sf (by simp)
  have n2 := nm pr (by simp)
  have n3 := nm pr2 (by simp)
  refine F.ok Sc (fun vs H Q E h => ?_) (fun cdv A outer s H xs Q E hr h => ?_)
  · obtain ⟨a, ys, rfl, hl, _⟩ := h
    simpa using hl
  obtain ⟨a, ys, rfl, hl, ha, q⟩ := h
  match ys, hl, q with
  | [y, z], _, q =>
    refine ⟨_, pss_cons (ps_expr (BC cdv A outer s H E m j p1 p2 p3 p4 p5 _ hln (pa_cons (pe_var (i := 0) rfl (visB_ok vs) n1.1 n1.2) (pa_cons pe_str pa_nil))))
      (pss_cons (ps_xst (p' := p8) b (pe_var (i := 0) rfl (visB_ok vs) n1.1 n1.2) (pe_var (i := 1) rfl (visB_ok vp) n2.1 n2.2)) (pss_one (ps_xst (p' := p12) b (pe_var (i := 0) rfl (visB_ok vs) n1.1 n1.2) (pe_var (i := 2) rfl (visB_ok vp2) n3.1 n3.2)))), ?_⟩
    refine ⟨.ref a, rfl, a, C, [.str m], rfl, by simp, T, ha, ?_⟩
    refine ⟨y, rfl, .ref a, rfl, a, C, rfl, T, h1, .inl ⟨ha, fun dx nd ne => ?_⟩⟩
    refine ⟨z, rfl, .ref a, rfl, a, C, rfl, T, h2, .inr ⟨dx, [(f1, y)], upd_same, by rw [upd_ne ne, upd_same], by simp, ?_⟩⟩
    have key : upd (upd (upd H dx (exd dx [(f1, y)])) a (exo a C (some dx))) dx (exd dx [(f2, z), (f1, y)]) = upd (upd H dx (exd dx [(f2, z), (f1, y)])) a (exo a C (some dx)) := by
      funext c
      by_cases hd : c = dx
      · subst hd; rw [upd_same, upd_ne ne, upd_same]
      · rw [upd_ne hd]
        by_cases hc : c = a
        · subst hc; rw [upd_same, upd_same]
        · rw [upd_ne hc, upd_ne hc, upd_ne hd, upd_ne hd]
    show Q .non (upd (upd (upd H dx (exd dx [(f1, y)])) a (exo a C (some dx))) dx (exd dx [(f2, z), (f1, y)]))
    rw [key]
    exact q dx nd ne
theorem init_eval {env : PySem.Env} {x sf m : Str} {j : Nat} {p1 p2 p3 p4 p5 : Pos} (hl : (p2.endLine == p5.line) = true) : eval (.Call (.Attribute (.Name x p1) "__init__" p2) [.Name sf p3, .Constant (.str m) j p4] [] p5) env = (do
      let ov ← eval (.Name x p1) env
      standAt p2.atName
      let (f, first) ← holding [ov] (getMethod ov "__init__" (plainOf (.Name x p1) env))
      callWith p5 f first (backTo p5 (starEach [.Name sf p3, .Constant (.str m) j p4] env)) (backToKw p5 (keywordEach [] env))) := by
  have e : eval (.Call (.Attribute (.Name x p1) "__init__" p2) [.Name sf p3, .Constant (.str m) j p4] [] p5) env = (do
      let ov ← eval (.Name x p1) env
      standAt p2.atName
      methodCall (.Name x p1) "__init__" p2 p5 env ov 2 (backTo p5 (starEach [.Name sf p3, .Constant (.str m) j p4] env)) (backToKw p5 (keywordEach [] env))) := by rfl
  rw [e]
  congr 1
  funext ov
  rw [mcall_line (by rfl) hl]
theorem bc_own {N : List Str} {Q : Addr} (b : Bas B n i tl) (hg : glB scope bn = true) (O : OwnB K mg bn i Q) : BaseCall P w K mg base bn sf n tl N qual scope fI := fun cdv A outer s H E m j p1 p2 p3 p4 p5 ta hl ha =>
  pe_xinit b (glB_ok (X := cxOf (L2.CX P w) P w K mg base N qual scope fI cdv A outer s H E) hg).1 O ha (glB_ok (X := cxOf (L2.CX P w) P w K mg base N qual scope fI cdv A outer s H E) hg).2.1 (init_eval hl)
theorem bc_blt {N : List Str} (b : Bas B n i tl) (hg : glB scope bn = true) (hm : mg bn = none) (hv : bootBuiltins bn = some (.type B)) (ht : typeOf (.type B) = pure (.type "type")) (hst : Manifest.isStub B = false) (at_ : PySem.W.findCls K (.type B) (.type "type") "__init__" = some (.val (.builtin i)))
    (hh : PySem.W.handedIn (.builtin i) = true) : BaseCall P w K mg base bn sf n tl N qual scope fI := fun cdv A outer s H E m j p1 p2 p3 p4 p5 ta hl ha =>
  pe_xinitB b (glB_ok (X := cxOf (L2.CX P w) P w K mg base N qual scope fI cdv A outer s H E) hg).1 hm hv ht hst at_ hh ha (glB_ok (X := cxOf (L2.CX P w) P w K mg base N qual scope fI cdv A outer s H E) hg).2.2 (glB_ok (X := cxOf (L2.CX P w) P w K mg base N qual scope fI cdv A outer s H E) hg).2.1 (init_eval hl)
end
/-! ### the written part looked at -/
def oxB (K : PySem.W.Frag) (C : Addr) (n : String) (tl : List Value) : Bool := (match K.lookup C with
  | some ⟨.type "type", _, .cls cd, sl⟩ => (match cd.mro, sl.toList with
    | .ref C' :: bm, [_, _, _, _, some (.builtin n'), _] => C' == C && n' == n && !cd.hasDel && cd.hasDict && endsB tl bm
    | _, _ => false)
  | _ => false) && decide (PySem.W.findIn K (.ref C) "__setattr__" = some (some (.builtin "object.__setattr__"))) && decide (PySem.W.subIn K (.ref C) (.type "BaseException") = some true) && decide (PySem.W.typeIn K (.ref C) = some (.type "type")) && PySem.W.keepIn K (.ref C)
theorem oxB_ok {K : PySem.W.Frag} {C : Addr} {n : String} {tl : List Value} (h : oxB K C n tl = true) : OxC K n tl C := by
  unfold oxB at h
  simp only [Bool.and_eq_true, decide_eq_true_eq] at h
  obtain ⟨⟨⟨⟨h1, h2⟩, h3⟩, h4⟩, h5⟩ := h
  refine ⟨?_, h2, h3, h4, h5⟩
  split at h1
  · rename_i dd cd sl ho
    split at h1
    · rename_i C' bm k0 k1 k2 k3 n' k5 hm hs
      simp only [Bool.and_eq_true, beq_iff_eq, Bool.not_eq_true'] at h1
      obtain ⟨⟨⟨⟨rfl, rfl⟩, hdel⟩, hdic⟩, ht⟩ := h1
      obtain ⟨nm, bs, mro, ns, qn, hd, sn, sub, ab, col, dl⟩ := cd
      dsimp only at hm hdel hdic
      subst hm hdel hdic
      obtain ⟨l⟩ := sl
      dsimp only at hs
      subst hs
      exact ⟨nm, qn, ns, bs, bm, sn, sub, ab, col, dd, k0, k1, k2, k3, k5, ho, ht⟩
    · cases h1
  · cases h1
def ownBB (K : PySem.W.Frag) (Q : Addr) (i : String) : Bool := decide (PySem.W.specialIn K (.ref Q) "__getattribute__" = some (some (.builtin "type.__getattribute__"))) && decide (PySem.W.typeIn K (.ref Q) = some (.type "type")) && PySem.W.readsIn K Q (.type "type") &&
  (match PySem.W.findCls K (.ref Q) (.type "type") "__init__" with
  | some (.val (.builtin i')) => i' == i
  | _ => false) && PySem.W.handedIn (.builtin i)
theorem ownBB_ok {K : PySem.W.Frag} {mg : Str → Option Value} {Q : Addr} {x : Str} {i : String} (g : mg x = some (.ref Q)) (h : ownBB K Q i = true) : OwnB K mg x i Q := by
  unfold ownBB at h
  simp only [Bool.and_eq_true, decide_eq_true_eq] at h
  obtain ⟨⟨⟨⟨h1, h2⟩, h3⟩, h4⟩, h5⟩ := h
  refine ⟨g, h1, h2, h3, ?_, h5⟩
  split at h4
  · rename_i i' e
    rw [e, beq_iff_eq.mp h4]
  · cases h4
end L2.Z

set_option Elab.async false
set_option linter.all false
set_option maxRecDepth 100000
set_option maxHeartbeats 4000000
/-! ZT: try .. except C as n: ..; the caught exception is a value from then on. -/
namespace L2
open PySem PySem.Spec PyProof.Rows Z

theorem exv_ok {P : Program} {w : World} {H : Hp} {h : Heap} {a C dx : Addr} {oe : Obj} {vs : Array Value} (e : h.get? a = some oe) (z : Zc (.ref C) (some dx) oe) (d : oe.data = .fields vs) : ObjOk P w H h a (exv a C dx) :=
  ⟨⟨oe, vs, e, z, d⟩, ⟨_, e⟩, fun h1 h2 x k => by
    obtain ⟨o, v, e', z', d'⟩ := x
    exact ⟨o, v, k _ e', z', d'⟩⟩
theorem exv_at {P : Program} {w : World} {H : Hp} {h : Heap} {a C dx : Addr} (hok : HOk P w H h) (e : H a = some (exv a C dx)) : ∃ (oe : Obj) (vs : Array Value), h.get? a = some oe ∧ Zc (.ref C) (some dx) oe ∧ oe.data = .fields vs := by
  have x : ObjOk P w H h a (.ext fun h => ∃ (oe : Obj) (vs : Array Value), h.get? a = some oe ∧ Zc (.ref C) (some dx) oe ∧ oe.data = .fields vs) := hok a _ e
  exact x.1
section
variable {X : Cx} {pins : List (Addr × Obj)} {σ : St} {H : Hp} {s s' sI : Shared} {B : Heap} {a : Addr}
theorem Inv.suite0 (I : Inv X pins σ H s) : Inv (X.suite a (X.pn ++ pins)) [] σ H s :=
  ⟨I.ok.suite _ _, I.os, I.bare, I.base, I.loc, I.cell, I.free, I.freeC, fun p hp => I.pin p (by rw [List.append_nil] at hp; exact hp), I.hok, I.len⟩
theorem Inv.unsuite0 {pn' : List (Addr × Obj)} (I : Inv (X.suite a (X.pn ++ pins)) pn' σ H s) (ok : X.Ok) : Inv X pins σ H s :=
  ⟨ok, I.os, I.bare, I.base, I.loc, I.cell, I.free, I.freeC, fun p hp => I.pin p (List.mem_append_left _ hp), I.hok, I.len⟩
/-- the exception that landed is known from now on -/
theorem Inv.landedV {C dx : Addr} {oe : Obj} {vs : Array Value} (I : Inv X pins σ H sI) (nb : ∀ b o, sI.heap.get? b = some o → b ∉ frs X.stack → B.get? b = some o) (st : B.StaysIn s'.heap) (up : sI.heap.UpToSlots s'.heap) (os : s'.os = sI.os) (ag : AllBare s'.gens)
    (bn : B.get? a = none) (nf : a ∉ frs X.stack) (na : H a = none) (he : s'.heap.get? a = some oe) (hz : Zc (.ref C) (some dx) oe) (hd : oe.data = .fields vs) : Inv X pins σ (upd H a (exv a C dx)) s' := by
  have nI : sI.heap.get? a = none := by
    cases q : sI.heap.get? a with
    | none => rfl
    | some o => rw [nb a o q nf] at bn; cases bn
  obtain ⟨G, g1, g2⟩ := restrict s'.heap fun b => decide (b ≠ a)
  have ne : ∀ {b : Addr} {o : Obj}, sI.heap.get? b = some o → b ≠ a := fun {b o} q z => by rw [z, nI] at q; cases q
  have gk : ∀ {b : Addr}, b ≠ a → G.get? b = s'.heap.get? b := fun {b} hb => g1 b (decide_eq_true hb)
  have ga : G.get? a = none := g2 a (by simp)
  have J : Inv X pins σ H { s' with heap := G } := I.landed (s' := { s' with heap := G }) nb (fun b o q => by
      have hb : b ≠ a := fun z => by rw [z, bn] at q; cases q
      show G.get? b = some o
      rw [gk hb]; exact st b o q) (fun b o q hnf => by
      obtain ⟨sl, z⟩ := up b o q hnf
      exact ⟨sl, by show G.get? b = _; rw [gk (ne q)]; exact z⟩) os ag
  have K := J.laidN (h' := s'.heap) (t' := s'.toks) (o := exv a C dx) (a := a) (fun b u q => by
      have hb : b ≠ a := fun z => by
        rw [z] at q
        have q' : G.get? a = some u := q
        rw [ga] at q'; cases q'
      rw [← gk hb]; exact q) ga na (exv_ok he hz hd)
  exact K
end

/-- what a clause wishes: its class, the slot of its name, its suite -/
structure Cl where
  c : Value
  i : Nat
  t : TS
def endC (i : Nat) (D : Ends) : Ends := { nx := fun σ H => D.nx (σ.set i none) H, rt := D.rt, bk := fun σ H => D.bk (σ.set i none) H, ct := fun σ H => D.ct (σ.set i none) H }
def wCl (K : PySem.W.Frag) (Wout : WX) (D : Ends) : List Cl → WX
  | [] => Wout
  | l :: r => fun cls d σ H => ∃ b, PySem.W.exmOne K cls l.c = some b ∧ (b = true → ∃ C dx, cls = .ref C ∧ d = some dx ∧ ∀ a, H a = none → l.t (endC l.i D) (σ.set l.i (some (.ref a))) (upd H a (exv a C dx))) ∧ (b = false → wCl K Wout D r cls d σ H)
inductive ClOk (X : Cx) : List ExceptHandler → List Cl → Prop
  | nil : ClOk X [] []
  | cons {x n : Str} {l : Cl} {b₀ : Stmt} {suite : List Stmt} {np pos' : Pos} {hds : List ExceptHandler} {r : List Cl} (hc : Names X x l.c) (hi : X.N[l.i]? = some n) (hn : X.env.kindOf n = some .local)
      (hsu : ∀ (a : Addr) (pn : List (Addr × Obj)), PSs (X.suite a pn) (b₀ :: suite) l.t) (hr : ClOk X hds r) : ClOk X (.ExceptHandler (some (.Name x np)) (some n) (b₀ :: suite) pos' :: hds) (l :: r)
section
variable {X : Cx} {body : List Stmt} {h₀ : ExceptHandler} {hds : List ExceptHandler} {l : List Cl} {pos : Pos} {tb : WX → TS} {Wout : WX}
theorem ps_tryV (hs : X.stack = X.env :: X.outer) (hf : X.env.frame = some X.env.locals) (hN : X.N.Nodup) (tk : Takes X Wout)
    (hb : ∀ (W : WX) (pn : List (Addr × Obj)) (xe : Value → Shared → Prop), Takes (X.tr pn xe) W → PassesOwn (model X.prog X.w) X.A X.env xe → PSs (X.tr pn xe) body (tb W))
    (hh : ClOk X (h₀ :: hds) l) : PS X (.Try body (h₀ :: hds) [] [] pos) (fun D σ H => tb (wCl X.K Wout D l) D σ H) := by
  refine ⟨fun pins s σ H D I h => ?_⟩
  have ok := I.ok
  have hfr : X.A.frames = some (X.env :: X.outer) := by rw [ok.frames, hs]
  refine wpAny_Try_except ?_
  let xe : Value → Shared → Prop := fun e s₁ => wpAny (model X.prog X.w) X.A (noteFrame e X.env) (fun _ s₂ => wpAny (model X.prog X.w) X.A (setFlight e none) (fun _ s₃ => wpAny (model X.prog X.w) X.A (handleBy e X.env (h₀ :: hds)) (SP X pins D) X.xe s₃) X.xe s₂) X.xe s₁
  refine wpAny_mono ((hb (wCl X.K Wout D l) (X.pn ++ pins) xe ?_ PassesOwn.looking).run [] s σ H D (I.toTry _) h) (fun f s1 hsp => ?_) (fun e s1 he => he)
  · rintro u s' ⟨a, B, sI, pins', σ', H', cls, d, rfl, J', nb, up, sky, na, os, ag, w⟩
    have J : Inv X pins σ' H' sI := J'.ofTry ok
    have sky' : Sky B (X.env :: X.outer) a (Zc cls d) X.env.locals s'.heap := by rw [← hs]; exact sky
    show wpAny (model X.prog X.w) X.A (noteFrame (.ref a) X.env) _ _ _
    refine Sky.land Zc.steady hfr hf sky' fun h3 fl3 up3 => ?_
    have J3 : Inv X pins σ' H' { s' with heap := h3 } := J.landed nb fl3.1 (up.trans up3) os ag
    obtain ⟨oe3, vs3, he3, hz3, hd3⟩ := fl3.there
    have nfr : a ∉ frs (X.env :: X.outer) := fun hm => by
      obtain ⟨_, o', e', hnf⟩ := fl3.2.2.1.mem hm
      rw [he3] at e'
      cases e'
      exact hnf _ hd3
    have nst : a ∉ frs X.stack := by rw [hs]; exact nfr
    have nL : a ≠ X.env.locals := fun z => nfr (List.mem_filterMap.mpr ⟨X.env, List.mem_cons_self, by rw [hf, z]⟩)
    have nF : a ∉ X.fs := fun hm => by
      obtain ⟨e, he, q⟩ := List.mem_filterMap.mp hm
      exact nfr (List.mem_filterMap.mpr ⟨e, List.mem_cons_of_mem _ he, q⟩)
    have S3 := J3.suite he3 hd3 na nL nF
    have go : ∀ {hs' : List ExceptHandler} {l' : List Cl}, ClOk X hs' l' → wCl X.K Wout D l' cls d σ' H' → wpAny (model X.prog X.w) X.A (handleBy (.ref a) X.env hs') (SP X pins D) X.xe { s' with heap := h3 } := by
      intro hs' l' hk
      induction hk with
      | nil =>
        intro w
        refine wpAny_handleBy_nil ?_
        obtain ⟨k1, k2, k3, oe, vs, T, oT, ts', he, hz, hd, h1, hr⟩ := id fl3
        unfold PySem.passOn
        refine wpAny_bind (wpAny_field he hd h1 ?_)
        rw [if_neg (show ¬ ((Value.ref T == Value.none) = true) from by simp)]
        have fin : wpAny (model X.prog X.w) X.A (setFlight (.ref a) X.env.frame) (fun _ s4 => wpAny (model X.prog X.w) X.A (throw (.ref a) : Sem Flow) (SP X pins D) X.xe s4) X.xe { s' with heap := h3 } := by
          rw [hf]
          exact HandSPX.setFlight_upZ fl3 fun h4 hh4 up4 => wpAny_throw (tk _ _ ⟨a, B, sI, pins, σ', H', cls, d, rfl, J, nb, (up.trans up3).trans up4, .inr (.inr (by rw [hs]; exact hh4)), na, os, ag, w⟩)
        first
          | exact wpAny_bind (wpAny_pure (wpAny_bind fin))
          | exact wpAny_bind fin
      | @cons x n l b₀ suite np pos' hds2 l2 hc hi hln hsu r ih =>
        intro w
        obtain ⟨b, hb1, hyes, hno⟩ := w
        refine wpAny_handleBy_cons (codeAny_handlers_test ?_) (by intro q; cases q)
        have LT : PySem.W.Looks (model X.prog X.w) h3 (typeOf (.ref a)) cls := fun A Q E s k q => wpAny_typeOf_ref (k _ _ he3) (by rw [hz3.1]; exact q)
        have LM := PySem.W.exm_one (M := model X.prog X.w) (J3.kIn) LT hb1
        have test : ∀ {Q : Value → Shared → Prop} {E : Value → Shared → Prop}, Q l.c { s' with heap := h3 } → wpAny (model X.prog X.w) (X.A.mark (some (.ref a))) (eval (.Name x np) X.env) Q E { s' with heap := h3 } := fun {Q E} q => by
          obtain ⟨hg, hdbg, hm | ⟨hm, hv, hnn⟩⟩ := hc
          · exact ld_glob (X := X.suite a ((a, oe3) :: (X.pn ++ pins))) S3 hg hm q hdbg
          · exact ld_blt (X := X.suite a ((a, oe3) :: (X.pn ++ pins))) S3 hg hm hv q hnn hdbg
        refine test (LM.here ?_)
        cases b with
        | false => exact ih (hno rfl)
        | true =>
          obtain ⟨C, dx, rfl, rfl, hy⟩ := hyes rfl
          refine codeAny_handlers_suite_as ?_
          refine HandSPX.lands_againZ fl3 fun h4 fl4 up4 => ?_
          obtain ⟨oe4, vs4, he4, hz4, hd4⟩ := fl4.there
          have J4 : Inv X pins σ' (upd H' a (exv a C dx)) { s' with heap := h4 } := J.landedV (s' := { s' with heap := h4 }) nb fl4.1 ((up.trans up3).trans up4) os ag fl4.2.1 nst na he4 hz4 hd4
          refine store_ok (X := X.suite a (X.pn ++ pins)) (v := .ref a) J4.suite0 hN hi (.inl hln) rfl (fun s5 S5 => ?_) (.inr hln)
          refine wpAny_mono ((hsu a (X.pn ++ pins)).run [] s5 _ _ _ S5 (hy a na)) (fun f s6 hsp => ?_) (fun _ _ z => False.elim z)
          have fin : ∀ {σ6 : St} {H6 : Hp} {Q : Shared → Prop}, Inv (X.suite a (X.pn ++ pins)) [] σ6 H6 s6 → (∀ s7, Inv X pins (σ6.set l.i none) H6 s7 → Q s7) →
              wpAny (model X.prog X.w) X.A (do bindName X.env n .none; unbindBehindTheSuite X.env n pos') (fun _ s7 => Q s7) X.xe s6 := fun {σ6 H6 Q} S6 hq => gone_ok (S6.unsuite0 ok) hN hi hln hq
          cases f with
          | next => obtain ⟨σ6, H6, S6, q6⟩ := hsp; exact fin S6 fun s7 J7 => ⟨_, _, J7, q6⟩
          | brk => obtain ⟨σ6, H6, S6, q6⟩ := hsp; exact fin S6 fun s7 J7 => ⟨_, _, J7, q6⟩
          | cont => obtain ⟨σ6, H6, S6, q6⟩ := hsp; exact fin S6 fun s7 J7 => ⟨_, _, J7, q6⟩
          | ret u => obtain ⟨v6, σ6, H6, S6, r6, q6⟩ := hsp; exact fin S6 fun s7 J7 => ⟨_, _, _, J7, r6, q6⟩
    exact go hh w
  · cases f with
    | next => obtain ⟨σ', H', J', q⟩ := hsp; exact wpAny_execs_nil ⟨σ', H', J'.ofTry ok, q⟩
    | brk => obtain ⟨σ', H', J', q⟩ := hsp; exact ⟨σ', H', J'.ofTry ok, q⟩
    | cont => obtain ⟨σ', H', J', q⟩ := hsp; exact ⟨σ', H', J'.ofTry ok, q⟩
    | ret u => obtain ⟨v, σ', H', J', r, q⟩ := hsp; exact ⟨v, σ', H', J'.ofTry ok, r, q⟩
end
end L2

namespace L2.Z
open PySem PySem.Spec PyProof.Rows
variable [HasT]
/-- one clause: the class's name, the slot of its name, its suite -/
structure Hd where
  c : Str
  i : Nat
  g : Sm
def runH (sub : Str → Str → Option Bool) (x : Xc) : List Hd → Sm
  | [], σ, S => .ok (.xc x, σ) S
  | h :: r, σ, S => match sub x.cls h.c with
    | some true => (match h.g (σ.set h.i (some (.xc x.cls x.ns x.ds))) S with
      | .ok (.nx, σ') S' => .ok (.nx, σ'.set h.i none) S'
      | .ok (.bk, σ') S' => .ok (.bk, σ'.set h.i none) S'
      | .ok (.ct, σ') S' => .ok (.ct, σ'.set h.i none) S'
      | .ok (.rt d, σ') S' => .ok (.rt d, σ') S'
      | _ => .bad)
    | some false => runH sub x r σ S
    | none => .bad
def sTry (sub : Str → Str → Option Bool) (b : Sm) (hs : List Hd) : Sm := fun σ S => match b σ S with
  | .ok (.xc x, σ') S' => runH sub x hs σ' S'
  | r => r
/-- what is known of own exception classes, one under another -/
def SubOk (K : PySem.W.Frag) (sub : Str → Str → Option Bool) : Prop := ∀ x y b, sub x y = some b → PySem.W.exmOne K (.ref (He.ga K x)) (.ref (He.ga K y)) = some b
inductive HdZ (X : Cx) : List ExceptHandler → List Hd → Prop
  | nil : HdZ X [] []
  | cons {x n : Str} {h : Hd} {b₀ : Stmt} {suite : List Stmt} {np pos' : Pos} {hds : List ExceptHandler} {r : List Hd} (hc : h.c = x) (hg : glB X.env.scope x = true) (hm : X.mg x = some (.ref (He.ga X.K x))) (hi : X.N[h.i]? = some n) (hn : X.env.kindOf n = some .local)
      (hsu : ∀ (a : Addr) (pn : List (Addr × Obj)), QSs (X.suite a pn) (b₀ :: suite) h.g) (hr : HdZ X hds r) : HdZ X (.ExceptHandler (some (.Name x np)) (some n) (b₀ :: suite) pos' :: hds) (h :: r)
def tG (X : Cx) (g : Sm) (W : WX) : TS := fun D σv H => ∃ (m : List Addr) (S : Sto) (σ : Env), RS X.K m S H ∧ RE X.K m H σ σv ∧ PostS X.K X.mg m H (g σ S) D W
section
variable {X : Cx} {body : List Stmt} {h₀ : ExceptHandler} {hds : List ExceptHandler} {hs : List Hd} {pos : Pos} {g : Sm} {sub : Str → Str → Option Bool}
theorem HdZ.ok {hds : List ExceptHandler} {hs : List Hd} (h : HdZ X hds hs) : ClOk X hds (hs.map fun q => ⟨.ref (He.ga X.K q.c), q.i, tG X q.g fun _ _ _ _ => False⟩) := by
  induction h with
  | nil => exact .nil
  | @cons x n h b₀ suite np pos' hds r hc hg hm hi hn hsu hr ih =>
    subst hc
    refine .cons (l := ⟨.ref (He.ga X.K h.c), h.i, tG X h.g fun _ _ _ _ => False⟩) ⟨(glB_ok hg).1, (glB_ok hg).2.1, .inl hm⟩ hi hn (fun a pn => ⟨fun pins s σ H D I z => ?_⟩) ih
    obtain ⟨m, S, σ', rs, re, p⟩ := z
    exact (hsu a pn).run (fun _ _ _ _ => False) takes_none5 m S σ' σ H D rs re p pins s I
theorem qs_try (hN : X.N.Nodup) (so : SubOk X.K sub) (hb : ∀ (pn : List (Addr × Obj)) (xe : Value → Shared → Prop), PassesOwn (model X.prog X.w) X.A X.env xe → QSs (X.tr pn xe) body g) (hh : HdZ X (h₀ :: hds) hs)
    (hst : X.stack = X.env :: X.outer := by rfl) (hf : X.env.frame = some X.env.locals := by rfl) : QS X (.Try body (h₀ :: hds) [] [] pos) (sTry sub g hs) := ⟨fun W tk m S σ σv H Dn rs re p => by
  refine wS.of (ps_tryV (tb := fun W' => tG X g W') hst hf hN tk (fun W' pn xe tk' po => ⟨fun pins s σ H D I z => ?_⟩) hh.ok) ?_
  · obtain ⟨m, S, σ', rs, re, p⟩ := z
    exact (hb pn xe po).run W' tk' m S σ' σ H D rs re p pins s I
  refine ⟨m, S, σ, rs, re, ?_⟩
  unfold sTry at p
  cases eb : g σ S with
  | bad => rw [eb] at p; exact p
  | exc _ _ => rw [eb] at p; exact p
  | ok q S1 =>
    obtain ⟨fl, σ1⟩ := q
    rw [eb] at p
    cases fl with
    | nx => exact p
    | bk => exact p
    | ct => exact p
    | rt d => exact p
    | xc x =>
      dsimp only at p
      intro m' H' σv' c d x' rs' re' rx
      have p' := PostS.ext p x'
      clear p eb hh
      induction hs with
      | nil => exact p' m' H' σv' c d (.refl _ _) rs' re' rx
      | cons h r ih =>
        obtain ⟨dd, vs, hm, rfl, rfl, hd, rds⟩ := rx
        simp only [runH] at p'
        cases es : sub x.cls h.c with
        | none => simp only [es] at p'; exact p'.elim
        | some b =>
          refine ⟨b, so _ _ _ es, fun e => ?_, fun e => ?_⟩
          · subst e
            simp only [es] at p'
            refine ⟨_, dd, rfl, rfl, fun a na => ?_⟩
            have xx : Ext m' H' m' (upd H' a (exv a (He.ga X.K x.cls) dd)) := .new na
            have nd : dd ≠ a := ne_of_none hd na
            refine ⟨m', S1, σ1.set h.i (some (.xc x.cls x.ns x.ds)), rs'.new na, (re'.mono xx).set ?_ h.i, ?_⟩
            · simp only [RD]
              exact ⟨a, dd, vs, rfl, upd_same, by rw [upd_ne nd]; exact hd, RDs.mono xx _ _ rds⟩
            have p2 := p'
            cases eg : h.g (σ1.set h.i (some (.xc x.cls x.ns x.ds))) S1 with
            | bad => rw [eg] at p2; exact p2
            | exc _ _ => rw [eg] at p2; exact p2
            | ok q S2 =>
              obtain ⟨fl, σ2⟩ := q
              rw [eg] at p2
              cases fl with
              | nx => exact fun m2 H2 σv2 y rs2 re2 => p2 m2 H2 _ (xx.trans y) rs2 (re2.unset h.i)
              | bk => exact fun m2 H2 σv2 y rs2 re2 => p2 m2 H2 _ (xx.trans y) rs2 (re2.unset h.i)
              | ct => exact fun m2 H2 σv2 y rs2 re2 => p2 m2 H2 _ (xx.trans y) rs2 (re2.unset h.i)
              | rt d => exact fun m2 H2 v y rs2 rd => p2 m2 H2 v (xx.trans y) rs2 rd
              | xc z => exact p2.elim
          · subst e
            simp only [es] at p'
            exact ih p'⟩
/-! ### a caught exception's fields -/
theorem pe_xv {e : Expr} {te : TE} {n : Str} (he : PE X e te) (hb : attributeBase e n X.env (eval e X.env) = eval e X.env := by rfl) :
    PE X (.Attribute e n pos) (fun σ H Q => te σ H fun x H1 => ∃ a C dx fs v, x = .ref a ∧ H1 a = some (exv a C dx) ∧ H1 dx = some (.xd fs) ∧ XfC X.K C ∧ PySem.W.findIn X.K (.ref C) n = some none ∧ fs.lookup n = some v ∧ Q v H1) := by
  refine ⟨fun pins s σ H Q I h => attr_of hb (thn (he.run pins s σ H _ I h) fun u s1 hh => ?_)⟩
  obtain ⟨x, H1, I1, rx, a, C, dx, fs, v, ex, ea, ed, T, hno, l, q⟩ := hh
  subst ex
  obtain ⟨oe, vs, ha, hz, hd⟩ := exv_at I1.hok ea
  obtain ⟨mA, hns, hr⟩ := (show ObjOk X.prog X.w H1 s1.heap dx (.xd fs) from I1.hok dx _ ed)
  obtain ⟨od, ho, hl⟩ := lookIn_ns hns
  obtain ⟨u', hu, ru⟩ := RelO.some_of (v := v) (o := mA n) (by rw [← l]; exact hr n)
  have eu : u = Value.ref a := rx
  subst eu
  have J : PySem.W.InstAt s1.heap a oe C (some od) := ⟨ha, hz.1, by unfold PySem.W.notCls; rw [hd] <;> rfl, by rw [hz.2]; exact ho⟩
  exact HandSPX.exc_get I1.kIn J T.ga T.gg T.exC (PySem.W.findObj_own T.hdC hno rfl (by rw [hl, hu])) (handed_of ru) ⟨v, H1, I1.tok _, ru, q⟩
def fFld (cs : List Str) (n : Str) : F1 := fun d S => match d with
  | .xc c ns ds => (match cs.contains c with
    | true => (match (ns.zip ds).lookup n with
      | some d => some (d, S)
      | none => none)
    | false => none)
  | _ => none
/-- the classes cs: instances' field n is read from the own dict -/
def FldOk (K : PySem.W.Frag) (cs : List Str) (n : Str) : Prop := ∀ c ∈ cs, XfC K (He.ga K c) ∧ PySem.W.findIn K (.ref (He.ga K c)) n = some none
theorem RDs.look {K : PySem.W.Frag} {m : List Addr} {H : Hp} {n : Str} {d : D} : ∀ {ns : List Str} {ds : List D} {vs : List V}, RDs K m H ds vs → (ns.zip ds).lookup n = some d → ∃ v, (ns.zip vs).lookup n = some v ∧ RD K m H d v
  | [], ds, vs, r, e => by simp at e
  | x :: ns, [], vs, r, e => by simp at e
  | x :: ns, y :: ds, vs, r, e => by
    simp only [RDs] at r
    obtain ⟨v, r', rfl, rd, rr⟩ := r
    simp only [List.zip_cons_cons, List.lookup] at e ⊢
    cases h : (n == x) with
    | true => rw [h] at e; cases e; exact ⟨v, rfl, rd⟩
    | false => rw [h] at e; exact RDs.look rr e
theorem q_xf {e : Expr} {f : Env → M D} {cs : List Str} {n : Str} (fo : FldOk X.K cs n) (ha : QE X e f) (hb : attributeBase e n X.env (eval e X.env) = eval e X.env := by rfl) : QE X (.Attribute e n pos) (e1 (fFld cs n) f) := ⟨fun W tk m S σ σv H P rs re q => by
  refine wE.of (pe_xv (pw e) hb) ?_
  refine (one (h := fFld cs n) ha tk rs re q).mono ?_
  rintro v H1 ⟨m1, S1, d1, d, S', rs1, r1, e', fin⟩
  unfold fFld at e'
  split at e'
  · rename_i c ns ds
    split at e'
    · rename_i hc
      split at e'
      · rename_i d0 el
        cases e'
        simp only [RD] at r1
        obtain ⟨a, dx, vs, rfl, h1, h2, r⟩ := r1
        obtain ⟨T, hno⟩ := fo c (by simpa using hc)
        obtain ⟨v', lv, rv⟩ := RDs.look r el
        exact ⟨a, _, dx, _, v', rfl, h1, h2, T, hno, lv, fin m1 H1 v' (.refl _ _) rs1 rv⟩
      · cases e'
    · cases e'
  · cases e'⟩
end
end L2.Z

set_option Elab.async false
set_option linter.all false
set_option maxRecDepth 100000
set_option maxHeartbeats 4000000
/-! ZL: a lambda without parameters handed to a def that calls it in a try. -/
namespace L2.Z
open PySem PySem.Spec PyProof.Rows LamX
section
variable {X : Cx} {pins : List (Addr × Obj)} {σ : L2.St} {H : Hp} {s : Shared}
/-- a() in the def that got the lambda, what it lets out taken with the names as they stand -/
theorem pe_actW {Eg : XK} {Ng : List Str} {qg : Str} {sg : Scope} {g f c' : Addr} {cdg pm ctv : Value} {params : Arguments} {body : Expr} {scope : Scope} {k i : Nat} {a : Str} {pn : List (Addr × Obj)} {xe : Value → Shared → Prop} {W : WX} {tb : XK → TE} {p1 p2 : Pos}
    (I : Inv X pins σ H s) (L : LamS X.env.scope scope) (hf : s.heap.get? f = some (PySem.W.kla_obj "<lambda>" (X.env.qual ++ "<lambda>") params body scope (cloFrom X.env.cells scope.names []) pm c' ctv)) (hfn : H f = none) (hfr : f ∉ frs X.stack)
    (hbind : bindArgs (PySem.W.kla_fn "<lambda>" (X.env.qual ++ "<lambda>") params body scope (cloFrom X.env.cells scope.names []) pm (.ref c') ctv) ⟨[], []⟩ = pure [])
    (tk : Takes ((cxOf (L2.CX X.prog X.w) X.prog X.w X.K X.mg X.base Ng qg sg g cdg X.A X.stack s H Eg).tr pn xe) W) (hr : Rm (k + 1) (X.A.deeper (envOfC qg sg s.heap.objs.size g cdg)))
    (hbody : ∀ (E : XK) (A : Around) (outer : List PySem.Env) (s : Shared) (H : Hp), Rm k (A.deeper (lamEnv X scope s.heap.objs.size f c')) → PE (lamCx X A outer s H E scope f c') body (tb E))
    (hN : Ng[i]? = some a) (hv : Vis sg a) (hd : (a == ("__debug__" : Str)) = false) (hcd : (a == ("__classdict__" : Str)) = false) :
    PE ((cxOf (L2.CX X.prog X.w) X.prog X.w X.K X.mg X.base Ng qg sg g cdg X.A X.stack s H Eg).tr pn xe) (.Call (.Name a p1) [] [] p2)
      (fun σZ HZ Q => σZ[i]? = some (some (.ref f)) ∧ HZ c' = some (CodeO c' (X.env.qual ++ "<lambda>")) ∧ tb (fun cls d H' => W cls d σZ H') σ HZ Q) := by
  refine ⟨fun pinsZ sZ σZ HZ Q IZ h => ?_⟩
  obtain ⟨hs, hc, ht⟩ := h
  refine wpAny_Call_Name_kw (thn ((pe_var (pos := p1) (i := i) hN hv hd hcd).run pinsZ sZ σZ HZ (fun v H1 => v = .ref f ∧ H1 = HZ) IZ ⟨.ref f, hs, rfl, rfl⟩) ?_)
  rintro u s1 ⟨v, H1, I1, r1, ev, eH⟩
  subst ev eH
  have eu : u = Value.ref f := r1
  subst eu
  have of1 := I1.base.keep f _ hf hfn hfr (fun z => nomatch (show f ∈ ([] : List Addr) from z))
  refine PySem.W.callWith_F0 ⟨_, _, _, _, of1⟩ ?_
  obtain ⟨⟨oc, vs, t, hoc, hdc, hvc⟩, _, _⟩ := I1.hok c' _ hc
  have rc : codeAny (model X.prog X.w) (X.A.deeper (envOfC qg sg s.heap.objs.size g cdg)) (.call (.ref f) ⟨[], []⟩) (CR (L2.CX X.prog X.w) (envOfC qg sg s.heap.objs.size g cdg :: X.stack) X.prog X.w H1 s1 Q (fun cls d H' => W cls d σZ H')) s1 := by
    refine PySem.W.kla_callFunE hr.depth of1 rfl L.co L.gen rfl ⟨c', oc, vs, t, rfl, hoc, hdc, hvc⟩ ?_
    rw [hbind]
    refine wpAny_pure (wpAny_newFunctionEnv (fun y hy => (L.own y hy).2) (fun y hy => absurd hy (by simp)) (fun h₁ hns hsb => ⟨I1.nolimit.fresh _ hsb, ?_⟩) L.kind)
    show codeAny _ _ (.expr body (lamEnv X scope s1.heap.objs.size f c')) _ _
    have kp : ∀ b o, s1.heap.get? b = some o → h₁.get? b = some o := fun b o e => hsb.extBut b o (Nat.ne_of_lt (Heap.lt_size e)) (Heap.get?_push_of_some _ e)
    have J : Inv (lamCx X (X.A.deeper (envOfC qg sg s.heap.objs.size g cdg)) (envOfC qg sg s.heap.objs.size g cdg :: X.stack) s1 H1 (fun cls d H' => W cls d σZ H') scope f c') [] σ H1 { s1 with heap := h₁, toks := s1.toks + ([] : List (Str × Value)).length } :=
      lam_start2 I L I1.env0 hr.hd I1.base hns kp
    refine PySem.W.kla_codeExpr (wpAny_mono ((hbody _ _ _ s1 H1 (hr.deeper _)).run [] _ _ H1 Q J ht) (fun v s' hq => ?_) fun e s' hq => hq)
    obtain ⟨w', H', J', rv, q⟩ := hq
    exact ⟨w', H', J'.os, J'.bare, J'.base, J'.hok, rv, q⟩
  refine wpAny_call (codeAny_mono rc fun r s' hq => ?_)
  · cases r with
    | error e => exact tk e s' (XE.of_call I1 (fun _ _ _ h => h) hq)
    | ok fl =>
      cases fl with
      | ret u => exact I1.after hq
      | next => exact False.elim hq
      | brk => exact False.elim hq
      | cont => exact False.elim hq
/-- the def that calls what it got -/
def GivesW (X : Cx) (Ng : List Str) (x : Str) (sg : Scope) (g : Addr) (cdg : Value) (bg : List Stmt) (a : Str) (q : Str) (k : Nat) (TT : (XK → Hp → VK → Prop) → Hp → VK → XK → Prop) : Prop :=
  ∀ (f c' : Addr) (s : Shared) (H : Hp) (Q : VK) (E : XK) (tl : XK → Hp → VK → Prop), Rm (k + 1) (X.A.deeper (envOfC x sg s.heap.objs.size g cdg)) →
    (∀ (W : WX) (pn : List (Addr × Obj)) (xe : Value → Shared → Prop) (p1 p2 : Pos), Takes ((cxOf (L2.CX X.prog X.w) X.prog X.w X.K X.mg X.base Ng x sg g cdg X.A X.stack s H E).tr pn xe) W →
      PE ((cxOf (L2.CX X.prog X.w) X.prog X.w X.K X.mg X.base Ng x sg g cdg X.A X.stack s H E).tr pn xe) (.Call (.Name a p1) [] [] p2) (fun σZ HZ Q => σZ[0]? = some (some (.ref f)) ∧ HZ c' = some (CodeO c' q) ∧ tl (fun cls d H' => W cls d σZ H') HZ Q)) →
    H c' = some (CodeO c' q) → TT tl H Q E →
    ∃ t, PSs (cxOf (L2.CX X.prog X.w) X.prog X.w X.K X.mg X.base Ng x sg g cdg X.A X.stack s H E) bg t ∧ t { nx := fun _ H' => Q .non H', rt := Q } (L2.start Ng [.ref f]) H
def tLamW (T : List (Addr × Str)) (TT : (XK → Hp → VK → Prop) → Hp → VK → XK → Prop) (t : XK → TE) (E : L2.St → XK) : TE := fun σ H Q => Tabs T H ∧ ∀ H1, ExtN H H1 → Tabs T H1 → TT (fun E H' Q' => t E σ H' Q') H1 Q (E σ)
end
section
variable {X : Cx}
theorem pe_lamW {T : List (Addr × Str)} {TT : (XK → Hp → VK → Prop) → Hp → VK → XK → Prop} {x a : Str} {g c P : Addr} {k : Nat} {pg : Arguments} {bg : List Stmt} {sg : Scope} {dV kV doc pm cdv ct oc : Value} {an od : Option Addr} {osl : Array (Option Value)} {Ng : List Str}
    {params : Arguments} {body : Expr} {scope : Scope} {t : XK → TE} {E : L2.St → XK} {p lpos pos : Pos} (hg : Gl X x) (hm : X.mg x = some (.ref g)) (hk : PySem.W.keepIn X.K (.ref g) = true)
    (lk : X.K.lookup g = some ⟨oc, od, .func (PySem.W.fnOf x x pg bg sg dV kV doc pm an cdv ct), osl⟩) (hcg : PySem.W.codeIn X.K cdv x = true) (hb : L2.Binds X.K (PySem.W.fnOf x x pg bg sg dV kV doc pm an cdv ct) [a] []) (Sg : FnScope Ng [a] sg) (hNg : Ng[0]? = some a) (hva : Vis sg a)
    (hG : GivesW X Ng x sg g cdv bg a (X.env.qual ++ "<lambda>") k TT) (hx : ∀ σ, PassesAt (L2.CX X.prog X.w) X σ (E σ))
    (TB : TabB X.base X.mg c P) (hcode : X.env.code = .ref c) (hmT : (P, X.env.qual ++ "<lambda>") ∈ T) (hu : ∀ p ∈ T, p.1 = P → p.2 = X.env.qual ++ "<lambda>") (hr : Rm (k + 2) X.A) (L : LamS X.env.scope scope) (hdef : defaultsOf params X.env = ([], []))
    (hbind : ∀ (q : Str) (cl : List (Str × Addr)) (pm cv ctv : Value), bindArgs (PySem.W.kla_fn "<lambda>" q params body scope cl pm cv ctv) ⟨[], []⟩ = pure [])
    (hbody : ∀ (E : XK) (A : Around) (outer : List PySem.Env) (s : Shared) (H : Hp) (f c' : Addr), Rm k (A.deeper (lamEnv X scope s.heap.objs.size f c')) → PE (lamCx X A outer s H E scope f c') body (t E))
    (hdb : (x == ("__debug__" : Str)) = false) (hd : (a == ("__debug__" : Str)) = false) (hcd : (a == ("__classdict__" : Str)) = false) :
    PE X (.Call (.Name x p) [.Lambda params body scope lpos] [] pos) (tLamW T TT t E) := by
  refine ⟨fun pins s σ H Q I h => ?_⟩
  obtain ⟨hT, h⟩ := h
  refine wpAny_Call_Name_kw (ld_glob I hg hm ?_ hdb)
  refine PySem.W.callWith_K (h₀ := X.base) I.ok.mod.kin hk ?_ (by rfl) (by rfl)
  show wpAny _ _ (spliced ((false, eval (.Lambda params body scope lpos) X.env) :: backTo pos (starEach [] X.env))) _ _ s
  refine Calls.spliced_cons (lam_make2 I TB hcode hmT hu hT hdef (L.has I.ok) fun f c' pm' ctv H1 s' I1 eN T1 hf hfn hfr hco => ?_)
  refine Calls.spliced_nil ⟨I1.kIn, ?_⟩
  refine wpAny_call (codeAny_mono (R := CR (L2.CX X.prog X.w) X.stack X.prog X.w H1 s' Q (E σ)) ?_ fun r s2 hq => ?_)
  · exact run_ofS (N := Ng) (ps := [a]) (us := [.ref f]) (vs := [.ref f]) lk hcg Sg hr.toRoom I1.env0 (hb s' [.ref f] I1.kIn rfl) (.cons rfl .nil) rfl fun hr' =>
      hG f c' s' H1 Q (E σ) (fun E H' Q' => t E σ H' Q') ⟨hr', hr.gd⟩ (fun W pn xe p1 p2 tk => pe_actW (i := 0) I1 L hf hfn hfr (hbind _ _ _ _ _) tk ⟨hr', hr.gd⟩ (fun E A outer s H hr2 => hbody E A outer s H f c' hr2) hNg hva hd hcd) hco (h H1 eN T1)
  · cases r with
    | error e => exact hx σ pins H1 s' e s2 I1 hq
    | ok fl =>
      cases fl with
      | ret u => exact I1.after hq
      | next => exact False.elim hq
      | brk => exact False.elim hq
      | cont => exact False.elim hq
end
end L2.Z
namespace L2.Z
open PySem PySem.Spec PyProof.Rows LamX
variable [HasT]
open Classical in
/-- what was handed over, called -/
noncomputable def eDeed (d0 : D) (dd : M D) : Env → M D := fun σ => if σ[0]? = some (some d0) then dd else bad
theorem eDeed_ok {d0 : D} {dd : M D} {σ : Env} {S : Sto} (h : eDeed d0 dd σ S ≠ .bad) : σ[0]? = some (some d0) ∧ eDeed d0 dd σ S = dd S := by
  unfold eDeed at h ⊢
  by_cases e : σ[0]? = some (some d0)
  · rw [if_pos e]; exact ⟨e, rfl⟩
  · rw [if_neg e] at h; exact absurd rfl h
abbrev LBody := (Env → M D) → Sm
def endL (r : Res (Fl × Env)) : Res D := match r with
  | .ok (.nx, _) S' => .ok .non S'
  | .ok (.rt d, _) S' => .ok d S'
  | .ok (.xc x, _) S' => .exc x S'
  | _ => .bad
def runL (len : Nat) (b : LBody) (dd : M D) : M D := fun S => endL (b (fun _ => dd) (some .non :: List.replicate (len - 1) none) S)
/-- it makes no difference where the lambda lies -/
def Uni (len : Nat) (b : LBody) : Prop := ∀ d0 dd S, endL (b (eDeed d0 dd) (some d0 :: List.replicate (len - 1) none) S) = runL len b dd S
def eLam (len : Nat) (b : LBody) (f : Env → M D) : Env → M D := fun σ => runL len b (f σ)
/-- the tables' place and name -/
structure KnT (base : Heap) (mg : Str → Option Value) (q : Str) (c : Addr) : Prop where
  ex : ∃ P, TabB base mg c P ∧ (P, q) ∈ HasT.T ∧ ∀ p ∈ HasT.T, p.1 = P → p.2 = q
theorem HLe.ofN {H H' : Hp} (e : ExtN H H') : HLe H H' where
  tups := fun b xs h => e b (.tup xs) h (by intro ps z; cases z)
  frzs := fun b o u h => e b (.frz o u) h (by intro ps z; cases z)
  exts := fun b φ h => e b (.ext φ) h (by intro ps z; cases z)
  xds := fun b fs h => e b (.xd fs) h (by intro ps z; cases z)
theorem Ext.ofN {m : List Addr} {H H' : Hp} (e : ExtN H H') : Ext m H m H' := ⟨List.prefix_refl _, .ofN e, fun b o h t n => ⟨e b o h t, n⟩⟩
theorem RO.notbl {K : PySem.W.Frag} {m : List Addr} {H : Hp} {o : O} {u : HO} (r : RO K m H o (Option.some u)) : ∀ ps, u ≠ .tbl ps := fun ps z => r.plain u rfl (.inl ⟨ps, z⟩)
theorem RS.ofN {K : PySem.W.Frag} {m : List Addr} {S : Sto} {H H' : Hp} (r : RS K m S H) (e : ExtN H H') (t : Tabs HasT.T H') : RS K m S H' :=
  ⟨t, r.nd, r.len, fun i a h => by
    obtain ⟨o, g, q⟩ := r.at_ i a h
    obtain ⟨u, hu⟩ := q.some
    rw [hu] at q
    have z := e a u hu q.notbl
    refine ⟨o, g, ?_⟩
    rw [z]
    exact q.mono (.ofN e)⟩
def lamP (X : Cx) (m : List Addr) (S : Sto) (len : Nat) (b : LBody) (dd : M D) (P : D → Sto → List Addr → Hp → Prop) (tl : XK → Hp → VK → Prop) (H : Hp) (Q : VK) (E : XK) : Prop :=
  RS X.K m S H ∧ PostG X.K X.mg m H (runL len b dd S) P E ∧ (∀ v H', GV X.K m H P v H' → Q v H') ∧
    ∀ (E' : XK) (m' : List Addr) (S' : Sto) (H' : Hp) (P' : D → Sto → List Addr → Hp → Prop) (Q' : VK), Ext m H m' H' → RS X.K m' S' H' → PostG X.K X.mg m' H' (dd S') P' E' → (∀ v H'', GV X.K m' H' P' v H'' → Q' v H'') → tl E' H' Q'
section
variable {X : Cx} {x a : Str} {k : Nat} {len : Nat} {b : LBody} {params : Arguments} {body : Expr} {scope : Scope} {f : Env → M D} {p lpos pos : Pos}
theorem q_lam {gA : Addr} {fd : FuncData} {pg : Arguments} {bg : List Stmt} {sg : Scope} {Ng : List Str} {cA : Addr} (un : Uni len b) (F : FunD X.K x x pg bg sg [] [] gA fd) (hb : Binds X.K fd [a] []) (hm : X.mg x = some (.ref gA)) (Sg : FnScope Ng [a] sg) (nmg : NmOk Ng) (hl : Ng.length = len) (hva : visB sg a = true)
    (hq : ∀ (cdv : Value) (s : Shared) (H : Hp) (E : XK) (d0 : D) (dd : M D), Rm (k + 1) (X.A.deeper (envOfC x sg s.heap.objs.size gA cdv)) →
      (∀ (pn : List (Addr × Obj)) (xe : Value → Shared → Prop) (p1 p2 : Pos), QE ((cxOf (L2.CX X.prog X.w) X.prog X.w X.K X.mg X.base Ng x sg gA cdv X.A X.stack s H E).tr pn xe) (.Call (.Name a p1) [] [] p2) (eDeed d0 dd)) →
      QSs (cxOf (L2.CX X.prog X.w) X.prog X.w X.K X.mg X.base Ng x sg gA cdv X.A X.stack s H E) bg (b (eDeed d0 dd)))
    (kt : KnT X.base X.mg (X.env.qual ++ "<lambda>") cA) (hcode : X.env.code = .ref cA) (hr : Rm (k + 2) X.A) (L : lamSB X.env.scope scope = true) (hdef : defaultsOf params X.env = ([], []))
    (hbind : ∀ (q : Str) (cl : List (Str × Addr)) (pm cv ctv : Value), bindArgs (PySem.W.kla_fn "<lambda>" q params body scope cl pm cv ctv) ⟨[], []⟩ = pure [])
    (hbody : ∀ (A : Around) (outer : List PySem.Env) (s : Shared) (H : Hp) (E : XK) (fA c' : Addr), Rm k (A.deeper (lamEnv X scope s.heap.objs.size fA c')) → QE (lamCx X A outer s H E scope fA c') body f)
    (hg : glB X.env.scope x = true := by kernel_rfl) : QE X (.Call (.Name x p) [.Lambda params body scope lpos] [] pos) (eLam len b f) := ⟨fun W tk m S σ σv H P rs re q => by
  obtain ⟨Pt, TB, hmT, hu⟩ := kt.ex
  obtain ⟨oc, od, dV, kV, doc, pm, an, cdv, ct, osl, rfl, lk, hcd, _, _⟩ := F.ex
  have hN0 : Ng[0]? = some a := by
    have z := Sg.pre
    cases Ng with
    | nil => cases z
    | cons y r => simp at z; simp [z]
  have na := nmg a (List.mem_of_getElem? hN0)
  refine wE.of (pe_lamW (T := HasT.T) (k := k) (Ng := Ng) (E := fun σ c d H' => W c d σ H') (TT := fun tl H Q E => ∃ (m : List Addr) (S : Sto) (dd : M D) (P : D → Sto → List Addr → Hp → Prop), lamP X m S len b dd P tl H Q E)
    (t := fun E σv H Q => ∃ (m : List Addr) (S : Sto) (σ : Env) (P : D → Sto → List Addr → Hp → Prop), RS X.K m S H ∧ RE X.K m H σ σv ∧ PostG X.K X.mg m H (f σ S) P E ∧ ∀ v H', GV X.K m H P v H' → Q v H')
    (glB_ok hg).1 hm F.kp lk hcd hb Sg hN0 (visB_ok hva) ?_ (fun σ => passAt tk σ) TB hcode hmT hu hr (lamS_by L) hdef hbind ?_ (glB_ok hg).2.1 na.1 na.2) ?_
  · intro fA c' s H Q E tl hr' act hco ⟨m, S, dd, P, rs, p, fin, htl⟩
    have un' := un (D.lam fA c' (X.env.qual ++ "<lambda>") m H) dd S
    rw [← un'] at p
    refine ⟨_, pssw _, ?_⟩
    refine (hq cdv s H E (D.lam fA c' (X.env.qual ++ "<lambda>") m H) dd hr' (fun pn xe p1 p2 => ⟨fun W' tk' m' S' σ' σv' H' P' rs' re' q' => ?_⟩)).run (fun c d _ H' => E c d H') (takes_of rfl rfl rfl rfl) m S (some (D.lam fA c' (X.env.qual ++ "<lambda>") m H) :: List.replicate (len - 1) none) _ H _ rs ?_ ?_
    · have nb : eDeed (D.lam fA c' (X.env.qual ++ "<lambda>") m H) dd σ' S' ≠ .bad := fun z => by rw [z] at q'; exact q'
      obtain ⟨e1, e2⟩ := eDeed_ok nb
      rw [e2] at q'
      obtain ⟨v, ev, rv⟩ := re'.at_ 0 _ e1
      simp only [RD] at rv
      obtain ⟨rfl, hc, xt⟩ := rv
      exact wE.of (act W' pn xe p1 p2 tk') ⟨ev, hc, htl _ m' S' H' P' _ xt rs' q' fun _ _ z => z⟩
    · have e : L2.start Ng [V.ref fA] = [V.ref fA].map some ++ List.replicate (len - 1) none := by unfold L2.start; rw [hl]; rfl
      rw [e]
      exact RE.start (ds := [D.lam fA c' (X.env.qual ++ "<lambda>") m H]) (by simp only [RDs, RD]; exact ⟨_, [], rfl, ⟨rfl, hco, .refl _ _⟩, rfl⟩) (len - 1)
    · revert p
      cases b (eDeed (D.lam fA c' (X.env.qual ++ "<lambda>") m H) dd) (some (D.lam fA c' (X.env.qual ++ "<lambda>") m H) :: List.replicate (len - 1) none) S with
      | bad => exact fun p => p
      | exc _ _ => exact fun p => p
      | ok r S1 =>
        obtain ⟨fl, σ1⟩ := r
        cases fl with
        | nx => exact fun p m1 H1 σv1 x1 rs1 re1 => fin _ _ ⟨.non, S1, m1, rs1, by simp only [RD], x1, p m1 H1 x1 rs1⟩
        | bk => exact fun p => False.elim p
        | ct => exact fun p => False.elim p
        | rt d => exact fun p m1 H1 v x1 rs1 rv => fin _ _ ⟨d, S1, m1, rs1, rv, x1, p m1 H1 x1 rs1⟩
        | xc x => exact fun p m1 H1 σv1 c d x1 rs1 re1 rx => p m1 H1 c d x1 rs1 rx
  · intro E A outer s H fA c' hr'
    refine ⟨fun pins s' σ' H' Q I ⟨m, S, σ1, P, rs, re, p, fin⟩ => ?_⟩
    have z := (hbody A outer s H E fA c' hr').run (fun c d _ H' => E c d H') (takes_of rfl rfl rfl rfl) m S σ1 σ' H' P rs re p
    exact wE.mono z fin pins s' I
  · refine ⟨rs.tb, fun H1 eN T1 => ⟨m, S, f σ, P, rs.ofN eN T1, PostG.ext q (.ofN eN), fun v H' z => ?_, fun E' m' S' H' P' Q' x' rs' p' fin' => ⟨m', S', σ, P', rs', re.mono (Ext.trans (.ofN eN) x'), p', fin'⟩⟩⟩
    obtain ⟨d, S', m', rs', r, x', pp⟩ := z
    exact ⟨d, S', m', rs', r, Ext.trans (.ofN eN) x', pp⟩⟩
end
end L2.Z

set_option Elab.async false
set_option linter.all false
set_option maxRecDepth 100000
set_option maxHeartbeats 4000000
/-! ZE: words for the end. -/
namespace L2.Z
open PySem PySem.Spec PyProof.Rows
variable [HasT]
/-! ### a lambda's place makes no difference -/
/-- g with d0 in the first slot does what g' does with None there -/
def Rg (d0 : D) (g g' : Sm) : Prop := ∀ σ S, (∃ fl t S', g' (some .non :: σ) S = .ok (fl, some .non :: t) S' ∧ g (some d0 :: σ) S = .ok (fl, some d0 :: t) S') ∨ (g' (some .non :: σ) S = .bad ∧ g (some d0 :: σ) S = .bad)
def Re {α : Type} (d0 : D) (f f' : Env → M α) : Prop := ∀ σ S, f (some d0 :: σ) S = f' (some .non :: σ) S
theorem rg_sE {α : Type} {d0 : D} {f f' : Env → M α} {k k' : Env → α → M (Fl × Env)} (hf : Re d0 f f') (hk : ∀ a, Rg d0 (fun σ => k σ a) (fun σ => k' σ a)) : Rg d0 (fun σ => sE (f σ) σ (k σ)) (fun σ => sE (f' σ) σ (k' σ)) := fun σ S => by
  dsimp only [sE]
  rw [hf σ S]
  cases f' (some .non :: σ) S with
  | ok a S1 => exact hk a σ S1
  | exc x S1 => exact .inl ⟨_, _, _, rfl, rfl⟩
  | bad => exact .inr ⟨rfl, rfl⟩
theorem rg_set {d0 : D} {f f' : Env → M D} (i : Nat) (hf : Re d0 f f') : Rg d0 (sSet (i + 1) f) (sSet (i + 1) f') := rg_sE hf fun a σ S => .inl ⟨_, _, _, rfl, rfl⟩
theorem rg_ret {d0 : D} {f f' : Env → M D} (hf : Re d0 f f') : Rg d0 (sRet f) (sRet f') := rg_sE hf fun a σ S => .inl ⟨_, _, _, rfl, rfl⟩
theorem rg_drop {d0 : D} {f f' : Env → M D} (hf : Re d0 f f') : Rg d0 (sDrop f) (sDrop f') := rg_sE hf fun a σ S => .inl ⟨_, _, _, rfl, rfl⟩
theorem rg_nil {d0 : D} : Rg d0 sNil sNil := fun σ S => .inl ⟨_, _, _, rfl, rfl⟩
theorem rg_if {d0 : D} {t t' : Env → M Bool} {a b a' b' : Sm} (ht : Re d0 t t') (ha : Rg d0 a a') (hb : Rg d0 b b') : Rg d0 (sIf t a b) (sIf t' a' b') := by
  refine rg_sE ht fun c => ?_
  cases c with
  | true => exact ha
  | false => exact hb
theorem rg_seq {d0 : D} {a b a' b' : Sm} (ha : Rg d0 a a') (hb : Rg d0 b b') : Rg d0 (sSeq a b) (sSeq a' b') := fun σ S => by
  unfold sSeq
  rcases ha σ S with ⟨fl, t, S', e1, e2⟩ | ⟨e1, e2⟩
  · rw [e1, e2]
    cases fl with
    | nx => exact hb t S'
    | bk => exact .inl ⟨_, _, _, rfl, rfl⟩
    | ct => exact .inl ⟨_, _, _, rfl, rfl⟩
    | rt d => exact .inl ⟨_, _, _, rfl, rfl⟩
    | xc x => exact .inl ⟨_, _, _, rfl, rfl⟩
  · rw [e1, e2]; exact .inr ⟨rfl, rfl⟩
inductive Rhs (d0 : D) : List Hd → List Hd → Prop
  | nil : Rhs d0 [] []
  | cons {c : Str} {i : Nat} {g g' : Sm} {r r' : List Hd} (h : Rg d0 g g') (hr : Rhs d0 r r') : Rhs d0 (⟨c, i + 1, g⟩ :: r) (⟨c, i + 1, g'⟩ :: r')
theorem rg_try {d0 : D} {sub : Str → Str → Option Bool} {b b' : Sm} {hs hs' : List Hd} (hb : Rg d0 b b') (hh : Rhs d0 hs hs') : Rg d0 (sTry sub b hs) (sTry sub b' hs') := fun σ S => by
  unfold sTry
  rcases hb σ S with ⟨fl, t, S', e1, e2⟩ | ⟨e1, e2⟩
  · rw [e1, e2]
    cases fl with
    | nx => exact .inl ⟨_, _, _, rfl, rfl⟩
    | bk => exact .inl ⟨_, _, _, rfl, rfl⟩
    | ct => exact .inl ⟨_, _, _, rfl, rfl⟩
    | rt d => exact .inl ⟨_, _, _, rfl, rfl⟩
    | xc x =>
      show (∃ fl t1 S1, runH sub x hs' (some .non :: t) S' = .ok (fl, some .non :: t1) S1 ∧ runH sub x hs (some d0 :: t) S' = .ok (fl, some d0 :: t1) S1) ∨ (runH sub x hs' (some .non :: t) S' = .bad ∧ runH sub x hs (some d0 :: t) S' = .bad)
      clear e1 e2 hb
      induction hh with
      | nil => exact .inl ⟨_, _, _, rfl, rfl⟩
      | @cons c i g g' r r' h hr ih =>
        simp only [runH]
        cases sub x.cls c with
        | none => exact .inr ⟨rfl, rfl⟩
        | some bb =>
          cases bb with
          | false => exact ih
          | true =>
            simp only [List.set_cons_succ]
            rcases h (t.set i (some (.xc x.cls x.ns x.ds))) S' with ⟨fl, t1, S1, e1, e2⟩ | ⟨e1, e2⟩
            · rw [e1, e2]
              cases fl with
              | nx => exact .inl ⟨_, _, _, rfl, rfl⟩
              | bk => exact .inl ⟨_, _, _, rfl, rfl⟩
              | ct => exact .inl ⟨_, _, _, rfl, rfl⟩
              | rt d => exact .inl ⟨_, _, _, rfl, rfl⟩
              | xc x => exact .inr ⟨rfl, rfl⟩
            · rw [e1, e2]; exact .inr ⟨rfl, rfl⟩
  · rw [e1, e2]; exact .inr ⟨rfl, rfl⟩
theorem re_deed {d0 : D} {dd : M D} : Re d0 (eDeed d0 dd) (fun _ => dd) := fun σ S => by
  unfold eDeed
  rw [if_pos (by simp)]
theorem uni_of {len : Nat} {b : LBody} (h : ∀ d0 dd, Rg d0 (b (eDeed d0 dd)) (b fun _ => dd)) : Uni len b := fun d0 dd S => by
  unfold runL
  rcases h d0 dd (List.replicate (len - 1) none) S with ⟨fl, t, S', e1, e2⟩ | ⟨e1, e2⟩
  · rw [e1, e2]; cases fl <;> rfl
  · rw [e1, e2]
section
variable {P : Program} {w : World} {K : PySem.W.Frag} {mg : Str → Option Value} {base : Heap}
theorem body_z {qual : Str} {body : List Stmt} {scope : Scope} {N ps : List Str} {n : Nat} {b : Sm} {f : Addr} {cdv : Value} {A : Around} {outer : List PySem.Env} {s : Shared} {H : Hp} {E : XK} {vs : List V} {Q : VK} (hn : ps.length = n)
    (hq : QSs (cxOf (L2.CX P w) P w K mg base N qual scope f cdv A outer s H E) body b) (h : spZ K mg n (runZ n N.length b) vs H Q E) :
    ∃ t, PSs (cxOf (L2.CX P w) P w K mg base N qual scope f cdv A outer s H E) body t ∧ t { nx := fun _ H' => Q .non H', rt := Q } (L2.start N vs) H := by
  refine ⟨_, pssw _, ?_⟩
  obtain ⟨m, S, ds, hl, rs, r, p⟩ := h
  have hd : ds.length = n := by rw [r.length, hl]
  have e : start N vs = vs.map some ++ List.replicate (N.length - n) none := by unfold start; rw [hl]
  rw [e]
  refine hq.run (fun c d _ H' => E c d H') (takes_of rfl rfl rfl rfl) m S _ _ H _ rs (RE.start r _) ?_
  unfold runZ at p
  rw [hd, show Nat.beq n n = true from Nat.beq_refl n] at p
  cases eb : b (ds.map some ++ List.replicate (N.length - n) none) S with
  | bad => simp only [eb] at p; exact p
  | exc y S' => simp only [eb] at p; exact p
  | ok y S' =>
    obtain ⟨fl, σ'⟩ := y
    cases fl with
    | nx => simp only [eb] at p; exact fun m' H' σv' x' rs' re' => p m' H' x' rs' .non (by simp only [RD])
    | bk => simp only [eb] at p; exact p.elim
    | ct => simp only [eb] at p; exact p.elim
    | rt d => simp only [eb] at p; exact fun m' H' v x' rs' rv => p m' H' x' rs' v rv
    | xc d => simp only [eb] at p; exact fun m' H' σv' c dd x' rs' re' rx => p m' H' c dd x' rs' rx
/-- fn_z, the def's code object told -/
theorem fn_zC {x : Str} {params : Arguments} {body : List Stmt} {scope : Scope} {dvs : List V} {kws : List (Str × V)} {fd : FuncData} {N ps : List Str} {k n : Nat} {b : Sm} (F : FunD K x x params body scope dvs kws (He.ga K x) fd) (Sc : FnScope N ps scope) (hn : ps.length = n)
    (hb : ∀ (cdv : Value), cdv = .ref (He.codeOf K (x, none)) → ∀ (A : Around) (outer : List PySem.Env) (s : Shared) (H : Hp) (E : XK), Rm k (A.deeper (envOfC x scope s.heap.objs.size (He.ga K x) cdv)) → QSs (cxOf (L2.CX P w) P w K mg base N x scope (He.ga K x) cdv A outer s H E) body b) :
    FnG P w K mg base (k + 1) (He.ga K x) fd ps (spZ K mg n (runZ n N.length b)) := by
  obtain ⟨oc, od, dV, kV, doc, pm, an, cdv, ct, osl, rfl, lk, hcd, _, _⟩ := F.ex
  have e : cdv = .ref (He.codeOf K (x, none)) := by
    obtain ⟨c, rfl⟩ := He.codeIn_ref hcd
    exact congrArg Value.ref (He.codeOf_eq (p := (x, none)) lk rfl).symm
  subst e
  have len : ∀ vs H Q E, spZ K mg n (runZ n N.length b) vs H Q E → vs.length = ps.length := fun vs H Q E h => by
    obtain ⟨_, _, _, hl, _⟩ := h
    rw [hl, hn]
  exact ⟨len, fun A outer s H args us vs Q E hr e0 hbd rv h => LamX.run_ofS (k := k) lk hcd Sc hr.toRoom e0 hbd rv (len _ _ _ _ h) fun hr' => body_z hn (hb _ rfl A outer s H E ⟨hr', hr.gd⟩) h⟩
end
end L2.Z

set_option Elab.async false
set_option linter.all false
set_option maxRecDepth 100000
set_option maxHeartbeats 4000000
/-! ZS: sorted of lists of ints and of tuples (of ints and of tuples of ints). -/
namespace L2.Z
open PySem PySem.Spec PyProof.Rows
/-! ### orders -/
structure Tor {α : Type} (lt : α → α → Bool) : Prop where
  irr : ∀ x, lt x x = false
  tr : ∀ x y z, lt x y = true → lt y z = true → lt x z = true
  tot : ∀ x y, x ≠ y → lt x y = true ∨ lt y x = true
def lexG {α : Type} [DecidableEq α] (lt : α → α → Bool) : List α → List α → Bool
  | [], [] => false
  | [], _ :: _ => true
  | _ :: _, [] => false
  | x :: xs, y :: ys => if x = y then lexG lt xs ys else lt x y
section
variable {α β : Type} [DecidableEq α] {lt : α → α → Bool}
theorem Tor.asym (O : Tor lt) {x y : α} (h : lt x y = true) : lt y x = false := by
  cases q : lt y x with
  | false => rfl
  | true => have := O.tr x y x h q; rw [O.irr] at this; cases this
theorem Tor.anti (O : Tor lt) {x y : α} (h : lt x y = false) (h2 : lt y x = false) : x = y := by
  by_cases e : x = y
  · exact e
  · rcases O.tot x y e with q | q
    · rw [h] at q; cases q
    · rw [h2] at q; cases q
theorem Tor.swo (O : Tor lt) (f : β → α) : SrtO.Swo fun x y => lt (f x) (f y) := by
  refine ⟨fun x y h => O.asym h, fun x y z h1 h2 => ?_⟩
  cases q : lt (f z) (f x) with
  | false => rfl
  | true =>
    by_cases e : f x = f y
    · rw [e] at q; rw [q] at h2; cases h2
    · rcases O.tot _ _ e with c | c
      · have := O.tr _ _ _ q c; rw [h2] at this; cases this
      · rw [h1] at c; cases c
theorem lexG_irr (O : Tor lt) : ∀ x, lexG lt x x = false
  | [] => rfl
  | a :: r => by simp only [lexG, if_true]; exact lexG_irr O r
theorem lexG_tot (O : Tor lt) : ∀ x y, x ≠ y → lexG lt x y = true ∨ lexG lt y x = true
  | [], [], h => absurd rfl h
  | [], _ :: _, _ => .inl rfl
  | _ :: _, [], _ => .inr rfl
  | a :: r, b :: t, h => by
    by_cases e : a = b
    · subst e
      simp only [lexG, if_true]
      exact lexG_tot O r t fun z => h (by rw [z])
    · simp only [lexG, if_neg e, if_neg (Ne.symm e)]
      exact O.tot a b e
theorem lexG_tr (O : Tor lt) : ∀ x y z, lexG lt x y = true → lexG lt y z = true → lexG lt x z = true
  | [], [], _, h, _ => by cases h
  | _ :: _, [], _, h, _ => by cases h
  | _, _ :: _, [], _, h => by cases h
  | [], _ :: _, _ :: _, _, _ => rfl
  | a :: r, b :: t, c :: u, h, k => by
    simp only [lexG] at h k ⊢
    by_cases e : a = b
    · subst e
      rw [if_pos rfl] at h
      by_cases e2 : a = c
      · subst e2
        rw [if_pos rfl] at k ⊢
        exact lexG_tr O r t u h k
      · rw [if_neg e2] at k ⊢; exact k
    · rw [if_neg e] at h
      by_cases e2 : b = c
      · subst e2
        rw [if_neg e]; exact h
      · rw [if_neg e2] at k
        have h3 := O.tr _ _ _ h k
        by_cases e3 : a = c
        · subst e3; rw [O.irr] at h3; cases h3
        · rw [if_neg e3]; exact h3
theorem Tor.lex (O : Tor lt) : Tor (lexG lt) := ⟨lexG_irr O, lexG_tr O, lexG_tot O⟩
end
theorem tor_int : Tor fun (a b : Int) => decide (a < b) := ⟨fun x => by simp, fun x y z h k => by simp at *; omega, fun x y h => by simp; omega⟩
theorem lex_HT : ∀ xs ys : List Int, HT.lexLt xs ys = lexG (fun a b => decide (a < b)) xs ys
  | [], [] => rfl
  | [], _ :: _ => rfl
  | _ :: _, [] => rfl
  | x :: xs, y :: ys => by
    rw [HT.lexLt_cons]
    simp only [lexG]
    rw [lex_HT xs ys]
/-- an item's part: its kind, its ints -/
abbrev Atm := Nat × List Int
def ltA (x y : Atm) : Bool := if x.1 = y.1 then HT.lexLt x.2 y.2 else decide (x.1 < y.1)
theorem tor_A : Tor ltA := by
  have T : Tor HT.lexLt := by
    have e : HT.lexLt = lexG (fun (a b : Int) => decide (a < b)) := by funext x y; exact lex_HT x y
    rw [e]; exact tor_int.lex
  refine ⟨fun x => ?_, fun x y z h k => ?_, fun x y h => ?_⟩
  · unfold ltA; rw [if_pos rfl]; exact T.irr _
  · unfold ltA at *
    by_cases e : x.1 = y.1
    · rw [if_pos e] at h
      by_cases e2 : y.1 = z.1
      · rw [if_pos e2] at k
        rw [if_pos (e.trans e2)]; exact T.tr _ _ _ h k
      · rw [if_neg e2] at k
        rw [if_neg (by rw [e]; exact e2), e]; exact k
    · rw [if_neg e] at h
      by_cases e2 : y.1 = z.1
      · rw [if_neg (by rw [← e2]; exact e), ← e2]; exact h
      · rw [if_neg e2] at k
        simp only [decide_eq_true_eq] at h k
        rw [if_neg (by omega)]
        simp only [decide_eq_true_eq]; omega
  · unfold ltA
    by_cases e : x.1 = y.1
    · rw [if_pos e, if_pos e.symm]
      exact T.tot _ _ fun z => h (Prod.ext e z)
    · rw [if_neg e, if_neg (Ne.symm e)]
      simp only [decide_eq_true_eq]; omega
abbrev Ky := List Atm
def ltK : Ky → Ky → Bool := lexG ltA
theorem tor_K : Tor ltK := tor_A.lex
/-! ### keys of data -/
def atmD : D → Option Atm
  | .int i => some (0, [i])
  | .tup xs => (intsOf xs).map fun l => (1, l)
  | _ => none
def atmsD : List D → Option Ky
  | [] => some []
  | d :: ds => match atmD d with
    | none => none
    | some a => match atmsD ds with
      | none => none
      | some r => some (a :: r)
def keyD : D → Option Ky
  | .tup (d :: ds) => atmsD (d :: ds)
  | _ => none
def kyD (d : D) : Ky := (keyD d).getD []
/-- two keys can be compared -/
def cmpK : Ky → Ky → Bool
  | x :: xs, y :: ys => Nat.beq x.1 y.1 && cmpK xs ys
  | _, _ => true
def cmpAll (xs : List D) : Bool := xs.all fun d => (keyD d).isSome && xs.all fun e => cmpK (kyD d) (kyD e)
def leD (a b : D) : Bool := !ltK (kyD b) (kyD a)
def srt (xs : List D) : Option (List D) := match intsOf xs with
  | some is => some ((is.mergeSort fun a b => decide (a ≤ b)).map .int)
  | none => match cmpAll xs with
    | true => some (xs.mergeSort leD)
    | false => none
def seqOf (d : D) (S : Sto) : Option (List D) := match d with
  | .loc n => lstAt S n
  | .tup xs => some xs
  | _ => none
@[irreducible] def fSorted : FL := fun ds S => match ds with
  | [d] => (seqOf d S).bind fun xs => (srt xs).map fun ys => (.loc S.n, S.push (.lst ys))
  | _ => none
theorem intsOf_eq : ∀ {xs : List D} {is : List Int}, intsOf xs = some is → xs = is.map .int
  | [], is, h => by cases h; rfl
  | d :: ds, is, h => by
    cases d with
    | int i =>
      simp only [intsOf] at h
      cases q : intsOf ds with
      | none => rw [q] at h; cases h
      | some r => rw [q] at h; cases h; rw [intsOf_eq q]; rfl
    | _ => cases h
theorem atmD_inj {d e : D} {a : Atm} (h : atmD d = some a) (k : atmD e = some a) : d = e := by
  cases d with
  | int i =>
    cases h
    cases e with
    | int j => cases k; rfl
    | tup ys =>
      simp only [atmD] at k
      cases q : intsOf ys with
      | none => rw [q] at k; cases k
      | some l => rw [q] at k; cases k
    | _ => cases k
  | tup xs =>
    simp only [atmD] at h
    cases q : intsOf xs with
    | none => rw [q] at h; cases h
    | some l =>
      rw [q] at h
      cases h
      cases e with
      | int j => cases k
      | tup ys =>
        simp only [atmD] at k
        cases q2 : intsOf ys with
        | none => rw [q2] at k; cases k
        | some l2 =>
          rw [q2] at k
          simp only [Option.map_some, Option.some.injEq, Prod.mk.injEq, true_and] at k
          subst k
          rw [intsOf_eq q, intsOf_eq q2]
      | _ => cases k
  | _ => cases h
theorem atmsD_inj : ∀ {ds es : List D} {a : Ky}, atmsD ds = some a → atmsD es = some a → ds = es
  | [], [], _, _, _ => rfl
  | [], e :: es, a, h, k => by
    cases h
    simp only [atmsD] at k
    split at k
    · cases k
    · split at k <;> cases k
  | d :: ds, [], a, h, k => by
    cases k
    simp only [atmsD] at h
    split at h
    · cases h
    · split at h <;> cases h
  | d :: ds, e :: es, a, h, k => by
    simp only [atmsD] at h k
    split at h
    · cases h
    · rename_i x hx
      split at h
      · cases h
      · rename_i r hr
        cases h
        split at k
        · cases k
        · rename_i y hy
          split at k
          · cases k
          · rename_i t ht
            cases k
            rw [atmD_inj hx hy, atmsD_inj hr ht]
theorem keyD_tup {d : D} {k : Ky} (h : keyD d = some k) : ∃ x xs, d = .tup (x :: xs) ∧ atmsD (x :: xs) = some k := by
  cases d with
  | tup xs =>
    cases xs with
    | nil => cases h
    | cons x xs => exact ⟨x, xs, rfl, h⟩
  | _ => cases h
theorem keyD_inj {d e : D} {a : Ky} (h : keyD d = some a) (k : keyD e = some a) : d = e := by
  obtain ⟨x, xs, rfl, h⟩ := keyD_tup h
  obtain ⟨y, ys, rfl, k⟩ := keyD_tup k
  rw [atmsD_inj h k]
theorem kyD_of {d : D} {k : Ky} (h : keyD d = some k) : kyD d = k := by unfold kyD; rw [h]; rfl
/-! ### two sorted lists of the same things -/
theorem sort_uniq {α : Type} {lt : α → α → Bool} : ∀ {l m : List α}, (∀ x ∈ l, ∀ y ∈ l, lt x y = false → lt y x = false → x = y) → l.Perm m → l.Pairwise (fun x y => lt y x = false) → m.Pairwise (fun x y => lt y x = false) → l = m
  | [], m, _, p, _, _ => by rw [List.nil_perm.mp p]
  | a :: l, m, an, p, s1, s2 => by
    cases m with
    | nil => exact absurd (List.Perm.length_eq p) (by simp)
    | cons b m =>
      have key : a = b := by
        have ha : a ∈ b :: m := p.subset List.mem_cons_self
        have hb : b ∈ a :: l := p.symm.subset List.mem_cons_self
        rcases List.mem_cons.mp ha with e | ha1
        · exact e
        · rcases List.mem_cons.mp hb with e | hb1
          · exact e.symm
          · exact an a List.mem_cons_self b hb ((List.pairwise_cons.mp s2).1 a ha1) ((List.pairwise_cons.mp s1).1 b hb1)
      subst key
      rw [sort_uniq (fun x hx y hy => an x (List.mem_cons_of_mem _ hx) y (List.mem_cons_of_mem _ hy)) (List.Perm.cons_inv p) (List.pairwise_cons.mp s1).2 (List.pairwise_cons.mp s2).2]
theorem leD_trans (a b c : D) (h : leD a b = true) (k : leD b c = true) : leD a c = true := by
  unfold leD at *
  simp only [Bool.not_eq_eq_eq_not, Bool.not_true] at *
  exact (tor_K.swo kyD).tr a b c h k
theorem leD_total (a b : D) : (leD a b || leD b a) = true := by
  unfold leD
  cases q : ltK (kyD b) (kyD a) with
  | false => rfl
  | true => rw [tor_K.asym q]; rfl
theorem srt_items {xs : List D} (h : cmpAll xs = true) {ys : List D} (p : ys.Perm xs) (s : ys.Pairwise fun x y => ltK (kyD y) (kyD x) = false) : ys = xs.mergeSort leD := by
  have pm : ys.Perm (xs.mergeSort leD) := p.trans (List.mergeSort_perm xs leD).symm
  refine sort_uniq (lt := fun x y => ltK (kyD x) (kyD y)) (fun x hx y hy h1 h2 => ?_) pm s ?_
  · have e := tor_K.anti h1 h2
    have hx1 := List.all_eq_true.mp h x (p.subset hx)
    have hy1 := List.all_eq_true.mp h y (p.subset hy)
    obtain ⟨kx, ex⟩ := Option.isSome_iff_exists.mp (Bool.and_eq_true_iff.mp hx1).1
    obtain ⟨ky, ey⟩ := Option.isSome_iff_exists.mp (Bool.and_eq_true_iff.mp hy1).1
    rw [kyD_of ex, kyD_of ey] at e
    rw [e] at ex
    exact keyD_inj ex ey
  · refine (List.pairwise_mergeSort (le := leD) leD_trans leD_total xs).imp fun {a b} q => ?_
    unfold leD at q
    simpa using q
theorem srt_ints {is ns : List Int} (p : ns.Perm is) (s : ns.Pairwise (· ≤ ·)) : ns = is.mergeSort fun a b => decide (a ≤ b) := by
  have pm := p.trans (List.mergeSort_perm is fun a b => decide (a ≤ b)).symm
  refine sort_uniq (lt := fun x y => decide (x < y)) (fun x _ y _ h1 h2 => ?_) pm (s.imp fun {a b} q => by simpa using q) ?_
  · simp only [decide_eq_false_iff_not] at h1 h2; omega
  · refine (List.pairwise_mergeSort (le := fun a b => decide (a ≤ b)) (fun a b c h k => by simp at *; omega) (fun a b => by simp; omega) is).imp fun {a b} q => ?_
    simpa using q
/-! ### how keys lie in a heap -/
def AtV (h : Heap) (a : Atm) (v : Value) : Prop := (∃ i t, a = (0, [i]) ∧ v = .int i t) ∨ ∃ b its, a.1 = 1 ∧ v = .ref b ∧ IsTup h b its ∧ IntsAre its.toList a.2
inductive AtsV (h : Heap) : Ky → List Value → Prop
  | nil : AtsV h [] []
  | cons {a : Atm} {v : Value} {k : Ky} {vs : List Value} : AtV h a v → AtsV h k vs → AtsV h (a :: k) (v :: vs)
def KyV (h : Heap) (k : Ky) (v : Value) : Prop := ∃ b its, v = .ref b ∧ IsTup h b its ∧ AtsV h k its.toList
theorem tupKeeps {h h' : Heap} {b : Addr} {its : Array Value} (x : IsTup h b its) (k : ∀ c o, h.get? c = some o → o.cls = .type "tuple" → h'.get? c = some o) : IsTup h' b its := by
  obtain ⟨o, ho, hc, n, hd⟩ := x
  exact ⟨o, k b o ho hc, hc, n, hd⟩
theorem AtV.keeps {h h' : Heap} {a : Atm} {v : Value} (x : AtV h a v) (k : ∀ c o, h.get? c = some o → o.cls = .type "tuple" → h'.get? c = some o) : AtV h' a v := by
  rcases x with x | ⟨b, its, h1, h2, h3, h4⟩
  · exact .inl x
  · exact .inr ⟨b, its, h1, h2, tupKeeps h3 k, h4⟩
theorem AtsV.keeps {h h' : Heap} {a : Ky} {v : List Value} (x : AtsV h a v) (k : ∀ c o, h.get? c = some o → o.cls = .type "tuple" → h'.get? c = some o) : AtsV h' a v := by
  induction x with
  | nil => exact .nil
  | cons p q ih => exact .cons (p.keeps k) ih
theorem KyV.keeps {h h' : Heap} {a : Ky} {v : Value} (x : KyV h a v) (k : ∀ c o, h.get? c = some o → o.cls = .type "tuple" → h'.get? c = some o) : KyV h' a v := by
  obtain ⟨b, its, h1, h2, h3⟩ := x
  exact ⟨b, its, h1, tupKeeps h2 k, h3.keeps k⟩
theorem ints_reads {h : Heap} {vs : List Value} {ns : List Int} (x : IntsAre vs ns) : ReadsAll h vs (ns.map .int) [] := by
  induction x with
  | nil => exact .nil
  | cons n t _ ih => exact .cons (as := []) (bs := []) (.int n t) ih
theorem lay_ints : ∀ ns : List Int, PyData.canLayAll0 (ns.map .int) = true
  | [] => rfl
  | n :: ns => by simp only [List.map_cons, PyData.canLayAll0, PyData.canLay0, lay_ints ns, Bool.and_self]
theorem depth_ints : ∀ ns : List Int, PyData.depthAll (ns.map .int) = 0
  | [] => rfl
  | n :: ns => by simp only [List.map_cons, PyData.depthAll, PyData.depth, depth_ints ns, Nat.max_self]
theorem eqv_ints : ∀ (ns ms : List Int), PyData.eqvAll (ns.map .int) (ms.map .int) = decide (ns = ms)
  | [], [] => rfl
  | [], _ :: _ => rfl
  | _ :: _, [] => rfl
  | n :: ns, m :: ms => by
    simp only [List.map_cons, PyData.eqvAll, PyData.eqv, eqv_ints ns ms]
    by_cases e : n = m
    · subst e
      by_cases e2 : ns = ms
      · simp [e2]
      · simp [e2]
    · simp [e]
theorem atv_eq {A : Around} {s : Shared} {a b : Atm} {v u : Value} (x : AtV s.heap a v) (y : AtV s.heap b u) (hk : a.1 = b.1) (hu : A.units + 64 < cLine) : SeqAt.EqAt A s v u (decide (a = b)) := by
  rcases x with ⟨i, t, rfl, rfl⟩ | ⟨p, its, h1, rfl, h3, h4⟩
  · rcases y with ⟨j, t2, rfl, rfl⟩ | ⟨q, its2, k1, rfl, k3, k4⟩
    · have e := SeqAt.EqAt.int_int (A := A) (s := s) i t j t2
      have : (i == j) = decide (((0, [i]) : Atm) = (0, [j])) := by
        by_cases c : i = j
        · subst c; simp
        · simp [c]
      rw [this] at e; exact e
    · rw [k1] at hk; cases hk
  · rcases y with ⟨j, t2, rfl, rfl⟩ | ⟨q, its2, k1, rfl, k3, k4⟩
    · rw [h1] at hk; cases hk
    · obtain ⟨o, ho, hc, n, hd⟩ := h3
      obtain ⟨o2, ho2, hc2, n2, hd2⟩ := k3
      have e := SeqAt.eqAt_reads (.tuple (a.2.map .int)) (.tuple (b.2.map .int)) A s (.ref p) (.ref q) _ _ (.tuple ho hc hd (ints_reads h4)) (.tuple ho2 hc2 hd2 (ints_reads k4)) (lay_ints _) (lay_ints _) (by
        simp only [PyData.depth, depth_ints]; omega)
      have : PyData.eqv (.tuple (a.2.map .int)) (.tuple (b.2.map .int)) = decide (a = b) := by
        simp only [PyData.eqv, eqv_ints]
        obtain ⟨a1, a2⟩ := a
        obtain ⟨b1, b2⟩ := b
        simp only at hk
        subst hk
        by_cases c : a2 = b2
        · subst c; simp
        · simp [c]
      rw [this] at e; exact e
section
variable {prog : Program} {w : World} {A : Around} {E : Value → Shared → Prop} {s : Shared}
theorem atv_lt {f : Bool} {a b : Atm} {v u : Value} {Q : Bool → Shared → Prop} (x : AtV s.heap a v) (y : AtV s.heap b u) (hk : a.1 = b.1) (hf : f = true → a.1 = 0) (hu : A.units + 64 < cLine) (hne : a ≠ b) (q : Q (ltA a b) s) : wpAny (model prog w) A (oneLt' f v u) Q E s := by
  unfold ltA at q
  rw [if_pos hk] at q
  rcases x with ⟨i, t, rfl, rfl⟩ | ⟨p, its, h1, rfl, h3, h4⟩
  · rcases y with ⟨j, t2, rfl, rfl⟩ | ⟨r, its2, k1, rfl, k3, k4⟩
    · refine PyProof.Rows.oneLt_any_int ?_
      have : HT.lexLt [i] [j] = decide (i < j) := by
        rw [HT.lexLt_cons, if_neg (fun c => hne (by rw [c]))]
      rw [← this]; exact q
    · rw [k1] at hk; cases hk
  · rcases y with ⟨j, t2, rfl, rfl⟩ | ⟨r, its2, k1, rfl, k3, k4⟩
    · rw [h1] at hk; cases hk
    · cases f with
      | true => have := hf rfl; rw [h1] at this; cases this
      | false => exact PySem.W.kat_one _ _ (HT.lt_tupInts h3 k3 h4 k4 (by omega) q)
theorem kat_ky {b fin : Bool} {Q : Bool → Shared → Prop} (hu : A.units + 64 < cLine) : ∀ {ks ls : Ky} {vs us : List Value} {i : Nat}, AtsV s.heap ks vs → AtsV s.heap ls us → cmpK ks ls = true → fin = decide (ks.length < ls.length) →
    (b = true → i = 0 → ∀ a ∈ ks.head?, a.1 = 0) → Q (ltK ks ls) s → PySem.W.KatLex prog w A b fin Q (vs.zip us) i s
  | [], [], _, _, i, .nil, .nil, hc, hf, hb, q => by
    subst hf
    exact PySem.W.kat_nil q
  | [], _ :: _, _, _, i, .nil, .cons _ _, hc, hf, hb, q => by
    subst hf
    exact PySem.W.kat_nil (by simpa [ltK, lexG] using q)
  | _ :: _, [], _, _, i, .cons _ _, .nil, hc, hf, hb, q => by
    subst hf
    exact PySem.W.kat_nil (by simpa [ltK, lexG] using q)
  | k :: ks, l :: ls, _, _, i, .cons x xs, .cons y ys, hc, hf, hb, q => by
    simp only [cmpK, Bool.and_eq_true] at hc
    have hk : k.1 = l.1 := Nat.eq_of_beq_eq_true hc.1
    refine PySem.W.kat_cons (atv_eq x y hk hu prog w _ _ ?_)
    refine PySem.W.kat_go (fun e => ?_) (fun e => ?_)
    · have e1 : k = l := of_decide_eq_true e
      subst e1
      refine PySem.W.kat_yes (kat_ky hu xs ys hc.2 ?_ (fun _ c => by omega) ?_)
      · rw [hf]; simp
      · simpa [ltK, lexG] using q
    · have e1 : k ≠ l := of_decide_eq_false e
      refine PySem.W.kat_no (atv_lt x y hk (fun c => ?_) hu e1 ?_)
      · rw [Bool.and_eq_true, beq_iff_eq] at c
        exact hb c.1 c.2 k (by simp)
      · simpa [ltK, lexG, e1] using q
/-- any two of them compare by their keys -/
theorem cmp_ky {b : Bool} {vs : List Value} {ky : Value → Ky} (hu : A.units + 64 < cLine) (hv : ∀ v ∈ vs, KyV s.heap (ky v) v) (hc : ∀ v ∈ vs, ∀ u ∈ vs, cmpK (ky v) (ky u) = true) (hb : b = true → ∀ v ∈ vs, ∀ a ∈ (ky v).head?, a.1 = 0) :
    SrtO.Cmp prog w A s (tuples' b) (fun p => p.1 ∈ vs) (SrtO.lt2 fun v u => ltK (ky v) (ky u)) := by
  intro p q hp hq
  obtain ⟨x, its, e1, ⟨o, ho, _, n, hd⟩, a1⟩ := hv _ hp
  obtain ⟨y, its2, e2, ⟨o2, ho2, _, n2, hd2⟩, a2⟩ := hv _ hq
  have c := hc _ hp _ hq
  have hb1 := fun z => hb z _ hp
  show wpAny (model prog w) A (keyLt' (tuples' b) p.1 q.1) (fun r s' => s' = s ∧ r = ltK (ky p.1) (ky q.1)) (fun _ _ => False) s
  generalize ky p.1 = k1 at *
  generalize ky q.1 = k2 at *
  rw [e1, e2]
  have len : ∀ {k : Ky} {us : List Value}, AtsV s.heap k us → k.length = us.length := fun h => by
    induction h with
    | nil => rfl
    | cons _ _ ih => simp [ih]
  refine PySem.W.kat_lt ho hd ho2 hd2 (kat_ky hu a1 a2 c ?_ (fun z _ => hb1 z) ⟨rfl, rfl⟩)
  rw [len a1, len a2, Array.length_toList, Array.length_toList]
theorem sortable_ky {a : Addr} {vs : List Value} {ky : Value → Ky} (hu : A.units + 64 < cLine) (h0 : 0 < vs.length) (hv : ∀ v ∈ vs, KyV s.heap (ky v) v) (hne : ∀ v ∈ vs, ky v ≠ []) (hc : ∀ v ∈ vs, ∀ u ∈ vs, cmpK (ky v) (ky u) = true) (ha : ∀ o, s.heap.get? a = some o → o.cls ≠ .type "tuple") :
    SrtO.SortableO prog w A s a vs fun v u => ltK (ky v) (ky u) := by
  intro h' keep
  have hv' : ∀ v ∈ vs, KyV h' (ky v) v := fun v hm => (hv v hm).keeps fun c o e cl => keep c o (fun z => by subst z; exact ha o e cl) e
  obtain ⟨v0, hv0⟩ : ∃ v, v ∈ vs := List.exists_mem_of_length_pos h0
  obtain ⟨a0, k0, ek0⟩ : ∃ a r, ky v0 = a :: r := by
    cases q : ky v0 with
    | nil => exact absurd q (hne v0 hv0)
    | cons a r => exact ⟨a, r, rfl⟩
  -- the first parts
  have firsts : ∀ (us : List Value), (∀ v ∈ us, v ∈ vs) → ∃ fs, PySem.W.KatTups h' us fs ∧ fs.length = us.length ∧ ∀ f ∈ fs, ∃ at_ : Atm, at_.1 = a0.1 ∧ AtV h' at_ f := fun us => by
    induction us with
    | nil => exact fun _ => ⟨[], PySem.W.KatTups.nil, rfl, by simp⟩
    | cons v us ih =>
      intro hm
      obtain ⟨fs, t, hl, hf⟩ := ih fun u hu => hm u (List.mem_cons_of_mem _ hu)
      have hvm := hm v List.mem_cons_self
      obtain ⟨x, its, rfl, ⟨o, ho, hcl, n, hd⟩, a1⟩ := hv' v hvm
      have c := hc _ hv0 _ hvm
      rw [ek0] at c
      cases q : ky (.ref x) with
      | nil => exact absurd q (hne _ hvm)
      | cons at1 r =>
        rw [q] at a1 c
        generalize hil : its.toList = il at a1
        cases a1 with
        | cons p1 p2 =>
          rename_i f rest
          simp only [cmpK, Bool.and_eq_true] at c
          refine ⟨f :: fs, PySem.W.KatTups.cons ho hcl hd (by rw [← Array.getElem?_toList, hil]; rfl) t, by simp [hl], fun g hg => ?_⟩
          rcases List.mem_cons.mp hg with rfl | hg
          · exact ⟨at1, (Nat.eq_of_beq_eq_true c.1).symm, p1⟩
          · exact hf g hg
  obtain ⟨fs, ht, hl, hf⟩ := firsts vs fun _ h => h
  have hfl : 0 < fs.length := by rw [hl]; exact h0
  by_cases e0 : a0.1 = 0
  · refine ⟨tuples' true, fun Q E q => ?_, cmp_ky hu hv' hc fun _ v hm a hma => ?_⟩
    · refine PySem.W.kat_kind (T := .type "int") ht hfl (fun f hm => ?_) (by rfl) ?_
      · obtain ⟨at1, e1, h1⟩ := hf f hm
        rcases h1 with ⟨i, t, rfl, rfl⟩ | ⟨p, its, h1, rfl, h3, h4⟩
        · exact PySem.W.Looks.now
        · rw [e1, e0] at h1; cases h1
      · have e : (Value.type "int" != Value.type "tuple") = true := by decide +kernel
        rw [e]; exact q
    · have c := hc _ hv0 _ hm
      rw [ek0] at c
      cases q : ky v with
      | nil => rw [q] at hma; cases hma
      | cons at1 r =>
        rw [q] at c hma
        simp only [cmpK, Bool.and_eq_true] at c
        simp only [List.head?_cons, Option.mem_def, Option.some.injEq] at hma
        subst hma
        rw [← Nat.eq_of_beq_eq_true c.1]; exact e0
  · refine ⟨tuples' false, fun Q E q => ?_, cmp_ky hu hv' hc fun z => by cases z⟩
    refine PySem.W.kat_kind (T := .type "tuple") ht hfl (fun f hm => ?_) (by rfl) ?_
    · obtain ⟨at1, e1, h1⟩ := hf f hm
      rcases h1 with ⟨i, t, rfl, rfl⟩ | ⟨p, its, h1, rfl, ⟨o, ho, hcl, n, hd⟩, h4⟩
      · exact absurd e1.symm e0
      · rw [← hcl]
        exact (PySem.W.Looks.ld ho).andThen PySem.W.Looks.now
    · have e : (Value.type "tuple" != Value.type "tuple") = false := by decide +kernel
      rw [e]; exact q
end
/-! ### the call -/
variable [HasT]
section
variable {X : Cx} {pins : List (Addr × Obj)} {σ : St} {H : Hp} {s : Shared} {m : List Addr}
theorem rds_ints {K : PySem.W.Frag} : ∀ {is : List Int} {vs : List V}, RDs K m H (is.map .int) vs → vs = is.map V.int
  | [], vs, h => by simpa only [List.map_nil, RDs] using h
  | i :: is, vs, h => by
    simp only [List.map_cons, RDs] at h
    obtain ⟨v, r, rfl, rd, rr⟩ := h
    simp only [RD] at rd
    rw [rd, rds_ints rr]; rfl
theorem atv_of (I : Inv X pins σ H s) {d : D} {v : V} {u : Value} {a : Atm} (r : RD X.K m H d v) (ru : RelV v u) (e : atmD d = some a) : AtV s.heap a u := by
  cases d with
  | int i =>
    cases e
    simp only [RD] at r
    subst r
    obtain ⟨t, rfl⟩ := ru
    exact .inl ⟨i, t, rfl, rfl⟩
  | tup xs =>
    simp only [atmD] at e
    cases q : intsOf xs with
    | none => rw [q] at e; cases e
    | some l =>
      rw [q] at e
      cases e
      simp only [RD] at r
      obtain ⟨p, vs, rfl, hs, rr⟩ := r
      have eu : u = Value.ref p := ru
      subst eu
      rw [intsOf_eq q] at rr
      rw [rds_ints rr] at hs
      obtain ⟨its, rv, ht, _⟩ := I.tuple hs
      exact .inr ⟨p, its.toArray, rfl, rfl, ht, by simpa using intsAre_of rv⟩
  | _ => cases e
theorem atsv_of (I : Inv X pins σ H s) : ∀ {ds : List D} {vs : List V} {us : List Value} {k : Ky}, RDs X.K m H ds vs → Vals vs us → atmsD ds = some k → AtsV s.heap k us
  | [], vs, us, k, r, rv, e => by
    cases e
    simp only [RDs] at r
    subst r
    cases rv
    exact .nil
  | d :: ds, vs, us, k, r, rv, e => by
    simp only [RDs] at r
    obtain ⟨v, w, rfl, rd, rr⟩ := r
    cases rv with
    | cons h t =>
      simp only [atmsD] at e
      split at e
      · cases e
      · rename_i a ha
        split at e
        · cases e
        · rename_i k2 hk
          cases e
          exact .cons (atv_of I rd h ha) (atsv_of I rr t hk)
theorem kyv_of (I : Inv X pins σ H s) {d : D} {v : V} {u : Value} {k : Ky} (r : RD X.K m H d v) (ru : RelV v u) (e : keyD d = some k) : KyV s.heap k u ∧ k ≠ [] ∧ ∃ a, v = .ref a := by
  obtain ⟨x, xs, rfl, h⟩ := keyD_tup e
  simp only [RD] at r
  obtain ⟨p, vs, rfl, hs, rr⟩ := r
  have eu : u = Value.ref p := ru
  subst eu
  obtain ⟨its, rv, ht, _⟩ := I.tuple hs
  refine ⟨⟨p, its.toArray, rfl, ht, by simpa using atsv_of I rr rv h⟩, ?_, p, rfl⟩
  intro z
  subst z
  simp only [atmsD] at h
  split at h
  · cases h
  · split at h <;> cases h
theorem atm_inj (I : Inv X pins σ H s) {d e : D} {v : V} {a b : Atm} (r : RD X.K m H d v) (r2 : RD X.K m H e v) (h : atmD d = some a) (k : atmD e = some b) : d = e := by
  cases d with
  | int i =>
    simp only [RD] at r
    subst r
    cases e with
    | int j => simp only [RD] at r2; cases r2; rfl
    | tup ys => simp only [RD] at r2; obtain ⟨_, _, z, _⟩ := r2; cases z
    | _ => cases k
  | tup xs =>
    simp only [RD] at r
    obtain ⟨p, vs, rfl, hs, rr⟩ := r
    cases e with
    | int j => simp only [RD] at r2; cases r2
    | tup ys =>
      simp only [RD] at r2
      obtain ⟨p2, vs2, z, hs2, rr2⟩ := r2
      cases z
      simp only [atmD] at h k
      cases q : intsOf xs with
      | none => rw [q] at h; cases h
      | some l =>
        cases q2 : intsOf ys with
        | none => rw [q2] at k; cases k
        | some l2 =>
          rw [intsOf_eq q] at rr ⊢
          rw [intsOf_eq q2] at rr2 ⊢
          have e1 := rds_ints rr
          have e2 := rds_ints rr2
          have e3 := I.tuple_inj hs hs2
          rw [e1, e2] at e3
          have : l = l2 := by
            clear rr rr2 e1 e2 hs hs2 q q2 h k
            induction l generalizing l2 with
            | nil => cases l2 with
              | nil => rfl
              | cons _ _ => cases e3
            | cons x l ih => cases l2 with
              | nil => cases e3
              | cons y l2 =>
                simp only [List.map_cons, List.cons.injEq, V.int.injEq] at e3
                rw [e3.1, ih _ e3.2]
          rw [this]
    | _ => cases k
  | _ => cases h
theorem atms_inj (I : Inv X pins σ H s) : ∀ {ds es : List D} {vs : List V} {a b : Ky}, RDs X.K m H ds vs → RDs X.K m H es vs → atmsD ds = some a → atmsD es = some b → ds = es
  | [], [], _, _, _, _, _, _, _ => rfl
  | [], e :: es, vs, a, b, r, r2, _, _ => by
    simp only [RDs] at r r2
    subst r
    obtain ⟨_, _, z, _⟩ := r2
    cases z
  | d :: ds, [], vs, a, b, r, r2, _, _ => by
    simp only [RDs] at r r2
    subst r2
    obtain ⟨_, _, z, _⟩ := r
    cases z
  | d :: ds, e :: es, vs, a, b, r, r2, h, k => by
    simp only [RDs] at r r2
    obtain ⟨v, w, rfl, rd, rr⟩ := r
    obtain ⟨v2, w2, z, rd2, rr2⟩ := r2
    cases z
    simp only [atmsD] at h k
    split at h
    · cases h
    · rename_i x hx
      split at h
      · cases h
      · rename_i y hy
        split at k
        · cases k
        · rename_i x2 hx2
          split at k
          · cases k
          · rename_i y2 hy2
            rw [atm_inj I rd rd2 hx hx2, atms_inj I rr rr2 hy hy2]
theorem key_inj (I : Inv X pins σ H s) {d e : D} {v : V} {a b : Ky} (r : RD X.K m H d v) (r2 : RD X.K m H e v) (h : keyD d = some a) (k : keyD e = some b) : d = e := by
  obtain ⟨x, xs, rfl, h⟩ := keyD_tup h
  obtain ⟨y, ys, rfl, k⟩ := keyD_tup k
  have r0 := r
  have r1 := r2
  simp only [RD] at r r2
  obtain ⟨p, vs, rfl, hs, rr⟩ := r
  obtain ⟨p2, vs2, z, hs2, rr2⟩ := r2
  cases z
  rw [I.tuple_inj hs hs2] at rr
  rw [atms_inj I rr rr2 h k]
open Classical in
/-- the data at a value -/
noncomputable def dOf (K : PySem.W.Frag) (m : List Addr) (H : Hp) (v : V) : D := if h : ∃ d, RD K m H d v ∧ (keyD d).isSome = true then h.choose else .non
theorem dOf_eq (I : Inv X pins σ H s) {d : D} {v : V} {k : Ky} (r : RD X.K m H d v) (h : keyD d = some k) : dOf X.K m H v = d := by
  have ex : ∃ d, RD X.K m H d v ∧ (keyD d).isSome = true := ⟨d, r, by rw [h]; rfl⟩
  unfold dOf
  rw [dif_pos ex]
  have c := ex.choose_spec
  obtain ⟨k2, e2⟩ := Option.isSome_iff_exists.mp c.2
  exact key_inj I c.1 r e2 h
theorem map_dOf (I : Inv X pins σ H s) : ∀ {ds : List D} {vs : List V}, RDs X.K m H ds vs → (∀ d ∈ ds, (keyD d).isSome = true) → vs.map (dOf X.K m H) = ds ∧ ∀ v ∈ vs, RD X.K m H (dOf X.K m H v) v ∧ dOf X.K m H v ∈ ds ∧ ∃ a, v = .ref a
  | [], vs, r, _ => by
    simp only [RDs] at r
    subst r
    exact ⟨rfl, by simp⟩
  | d :: ds, vs, r, h => by
    simp only [RDs] at r
    obtain ⟨v, w, rfl, rd, rr⟩ := r
    obtain ⟨k, e⟩ := Option.isSome_iff_exists.mp (h d List.mem_cons_self)
    obtain ⟨h1, h2⟩ := map_dOf I rr fun d hd => h d (List.mem_cons_of_mem _ hd)
    have e1 := dOf_eq I rd e
    refine ⟨by rw [List.map_cons, e1, h1], fun u hu => ?_⟩
    rcases List.mem_cons.mp hu with rfl | hu
    · refine ⟨by rw [e1]; exact rd, by rw [e1]; exact List.mem_cons_self, ?_⟩
      obtain ⟨x, xs, rfl, _⟩ := keyD_tup e
      simp only [RD] at rd
      obtain ⟨p, _, z, _⟩ := rd
      exact ⟨p, z⟩
    · obtain ⟨q1, q2, q3⟩ := h2 u hu
      exact ⟨q1, List.mem_cons_of_mem _ q2, q3⟩
theorem rds_map {K : PySem.W.Frag} {f : V → D} : ∀ {vs : List V}, (∀ v ∈ vs, RD K m H (f v) v) → RDs K m H (vs.map f) vs
  | [], _ => by simp only [List.map_nil, RDs]
  | v :: vs, h => by
    simp only [List.map_cons, RDs]
    exact ⟨v, vs, rfl, h v List.mem_cons_self, rds_map fun u hu => h u (List.mem_cons_of_mem _ hu)⟩
end
theorem fSorted_some {ds : List D} {S S' : Sto} {d : D} (e : fSorted ds S = some (d, S')) : ∃ d0 xs ys, ds = [d0] ∧ seqOf d0 S = some xs ∧ srt xs = some ys ∧ d = .loc S.n ∧ S' = S.push (.lst ys) := by
  unfold fSorted at e
  split at e
  · rename_i d0
    cases q : seqOf d0 S with
    | none => rw [q] at e; cases e
    | some xs =>
      rw [q] at e
      simp only [Option.bind_some] at e
      cases q2 : srt xs with
      | none => rw [q2] at e; cases e
      | some ys =>
        rw [q2] at e
        simp only [Option.map_some, Option.some.injEq, Prod.mk.injEq] at e
        exact ⟨d0, xs, ys, rfl, q, q2, e.1.symm, e.2.symm⟩
  · cases e
section
variable {prog : Program} {w : World} {A : Around} {E : Value → Shared → Prop} {s : Shared}
/-- the items of a tuple, in a list made on the way -/
theorem collect_tup {l : Addr} {o : Obj} {vs : List Value} {n : Nat} {Q : List Value → Shared → Prop} (ho : s.heap.get? l = some o) (hc : o.cls = .type "tuple") (hd : o.data = .seq vs.toArray n) (hz : vs.length ≤ sizeLine)
    (q : Q vs { s with heap := (s.heap.push (seqObj "list" #[] 0)).update s.heap.objs.size (Obj.mapSeq (· ++ vs.toArray)) }) : wpAny (model prog w) A (collect (.ref l)) Q E s := by
  have old := Heap.get?_push_of_some (o := seqObj "list" #[] 0) ho
  unfold collect
  refine wpAny_bind (wpAny_runValue (codeAny_builtin PyProof.Rows.entry_proto_collect' ?_))
  show wpAny _ _ (do again (.builtin "list.__iadd__" ⟨[← newList [], .ref l], []⟩)) _ _ _
  refine wpAny_bind (wpAny_newList (wpAny_pure ⟨Code.quiet_builtin _ (by decide +kernel), codeAny_builtin PyProof.Rows.entry_list_iadd' ?_⟩))
  show wpAny _ _ (Builtin.List.listExtendWith (.ref s.heap.objs.size) (.ref l) _) _ _ { s with heap := s.heap.push (seqObj "list" #[] 0) }
  unfold Builtin.List.listExtendWith
  refine wpAny_bind (wpAny_typeOf (T := "tuple") ⟨o, old, hc⟩ ?_)
  have two : (Value.type "tuple" == Value.type "tuple") = true := rfl
  rw [if_pos (by rw [two]; simp)]
  refine wpAny_bind (PyProof.Rows.listItems_at old hd (wpAny_bind (PyProof.Rows.listItems_at (xs := #[]) (n := 0) (Heap.get?_push_size _ rfl) rfl ?_)))
  rw [if_neg (by simp)]
  refine wpAny_bind (PyProof.Rows.listUpdate_at (n := 0) (xs := #[]) (Heap.get?_push_size _ rfl) rfl ?_ (Nat.zero_le _) (by show ((#[] : Array Value) ++ vs.toArray).size ≤ sizeLine + 1; simp; omega))
  refine wpAny_pure (show wpAny (model prog w) A (load s.heap.objs.size >>= _) Q E _ from ?_)
  refine wpAny_bind (wpAny_load (PyProof.Rows.get?_update_seq (Heap.get?_push_size _ rfl) _) (wpAny_pure ?_))
  rw [show ((#[] : Array Value) ++ vs.toArray).toList = vs by simp]
  exact q
theorem sorted_tup {l : Addr} {o : Obj} {vs : List Value} {n : Nat} {ltv : Value → Value → Bool} {Q : Value → Shared → Prop} (O : SrtO.Swo ltv) (ho : s.heap.get? l = some o) (hc : o.cls = .type "tuple") (hd : o.data = .seq vs.toArray n) (hz : vs.length ≤ sizeLine)
    (hS : 2 ≤ vs.length → ∀ (h1 : Heap) (a : Addr), h1.get? a = some (seqObj "list" vs.toArray 0) → (∀ b ob, s.heap.get? b = some ob → b ≠ a ∧ h1.get? b = some ob) → SrtO.SortableO prog w A.in1.in1 { s with heap := h1 } a vs ltv)
    (h : ∀ out : List Value, SrtO.Srtd ltv out → SrtO.Stb ltv out vs → Q (.ref (s.heap.objs.size + 1)) { s with heap := PyProof.Rows.sortedAll s.heap vs out.toArray }) : wpAny (model prog w) A (call (.builtin "sorted") [.ref l]) Q E s := by
  refine Calls.call_function_entry PyProof.Rows.kind_sorted PyProof.Rows.plain_sorted PyProof.Rows.entry_sorted (PyProof.Rows.args_sorted1 _) ?_
  unfold Builtin.«sorted»
  refine wpAny_bind (m := checkCount "sorted" 1 1 _) (wpAny_pure (wpAny_bind (collect_tup ho hc hd hz (wpAny_bind (wpAny_newList ?_ hz)))))
  generalize hH : (s.heap.push (seqObj "list" #[] 0)).update s.heap.objs.size (Obj.mapSeq (· ++ vs.toArray)) = h1
  have sz : h1.objs.size = s.heap.objs.size + 1 := by rw [← hH, Heap.size_update, PyProof.Rows.size_push']
  have kp : ∀ b ob, s.heap.get? b = some ob → h1.get? b = some ob := fun b ob q => by
    rw [← hH, Heap.get?_update_ne _ _ _ _ (Nat.ne_of_lt (Heap.lt_size q))]
    exact Heap.get?_push_of_some _ q
  have at_ : (h1.push (seqObj "list" vs.toArray 0)).get? (s.heap.objs.size + 1) = some (seqObj "list" vs.toArray 0) := by
    rw [← sz]; exact Heap.get?_push_size _ rfl
  show wpAny _ _ _ _ _ { s with heap := h1.push (seqObj "list" vs.toArray 0) }
  rw [sz]
  refine wpAny_bind (wpAny_holding (wpAny_call_entry PyProof.Rows.slot_list_sort ⟨_, at_, rfl⟩ PyProof.Rows.entry_list_sort
    (SrtO.list_sort_ord O at_ hz (fun h2 => hS h2 _ _ at_ fun b ob q => ⟨Nat.ne_of_lt (Nat.lt_succ_of_lt (Heap.lt_size q)), Heap.get?_push_of_some _ (kp b ob q)⟩) fun out hs hb => ⟨_, rfl, ?_⟩) (PyProof.Rows.args_list_sort _)))
  have z := h out hs hb
  unfold PyProof.Rows.sortedAll at z
  rw [hH] at z
  exact wpAny_pure ⟨_, rfl, z⟩
end
theorem srt_some {xs ys : List D} (h : srt xs = some ys) : (∃ is : List Int, xs = is.map .int ∧ ys = (is.mergeSort fun a b => decide (a ≤ b)).map .int) ∨ (cmpAll xs = true ∧ ys = xs.mergeSort leD) := by
  unfold srt at h
  cases qi : intsOf xs with
  | some is =>
    rw [qi] at h
    simp only [Option.some.injEq] at h
    exact .inl ⟨is, intsOf_eq qi, h.symm⟩
  | none =>
    rw [qi] at h
    cases qc : cmpAll xs with
    | false => rw [qc] at h; cases h
    | true =>
      rw [qc] at h
      simp only [Option.some.injEq] at h
      exact .inr ⟨rfl, h.symm⟩
theorem rds_int_map {K : PySem.W.Frag} {m : List Addr} {H : Hp} : ∀ is : List Int, RDs K m H (is.map .int) (is.map V.int)
  | [] => by simp only [List.map_nil, RDs]
  | i :: is => by
    simp only [List.map_cons, RDs]
    exact ⟨_, _, rfl, by simp only [RD], rds_int_map is⟩
section
variable {X : Cx} {pins : List (Addr × Obj)} {σ : St} {H : Hp} {s : Shared} {m : List Addr}
theorem srt_go {a : Addr} {xs : List D} {ws : List V} {its : List Value} {Q : VK} (hu : X.A.units + 100 < cLine) (I : Inv X pins σ H s) (rvals : Vals ws its) (hz : ws.length ≤ sizeLine)
    (run : ∀ {ltv : Value → Value → Bool} {Q : Value → Shared → Prop}, SrtO.Swo ltv → (2 ≤ its.length → ∀ (h1 : Heap) (a : Addr), h1.get? a = some (seqObj "list" its.toArray 0) → (∀ b ob, s.heap.get? b = some ob → b ≠ a ∧ h1.get? b = some ob) → SrtO.SortableO X.prog X.w X.A.in1.in1 { s with heap := h1 } a its ltv) →
      (∀ out : List Value, SrtO.Srtd ltv out → SrtO.Stb ltv out its → Q (.ref (s.heap.objs.size + 1)) { s with heap := PyProof.Rows.sortedAll s.heap its out.toArray }) → wpAny (model X.prog X.w) X.A (call (.builtin "sorted") [.ref a]) Q X.xe s)
    (rws : RDs X.K m H xs ws) (qc : cmpAll xs = true)
    (push : ∀ (p : Addr) (zs : List V), H p = none → RDs X.K m H (xs.mergeSort leD) zs → Q (.ref p) (upd H p (.lst zs))) : wpAny (model X.prog X.w) X.A (call (.builtin "sorted") [.ref a]) (EP X pins σ Q) X.xe s := by
  have hall : ∀ d ∈ xs, (keyD d).isSome = true := fun d hd => (Bool.and_eq_true_iff.mp (List.all_eq_true.mp qc d hd)).1
  obtain ⟨hm1, hm2⟩ := map_dOf I rws hall
  obtain ⟨e1, e2⟩ := refs_back rvals fun x hx => (hm2 x hx).2.2
  have kk : ∀ v ∈ its, backV v ∈ ws := fun v hv => by rw [e1]; exact List.mem_map.mpr ⟨v, hv, rfl⟩
  have rel : ∀ v ∈ its, RelV (backV v) v := fun v hv => by
    obtain ⟨b, rfl⟩ := e2 v hv
    rfl
  have key : ∀ v ∈ its, ∃ ky, keyD (dOf X.K m H (backV v)) = some ky := fun v hv => Option.isSome_iff_exists.mp (hall _ (hm2 _ (kk v hv)).2.1)
  refine run (tor_K.swo fun v => kyD (dOf X.K m H (backV v))) (fun h2 h₁ a' ha' kp => ?_) fun out h1 h2 => ?_
  · refine sortable_ky (s := { s with heap := h₁ }) (by show X.A.units + 1 + 1 + 64 < cLine; omega) (by omega) (fun v hv => ?_) (fun v hv => ?_) (fun v hv u hu => ?_) (fun o e => ?_)
    · obtain ⟨ky, ek⟩ := key v hv
      rw [kyD_of ek]
      exact (kyv_of I (hm2 _ (kk v hv)).1 (rel v hv) ek).1.keeps fun c o e _ => (kp c o e).2
    · obtain ⟨ky, ek⟩ := key v hv
      rw [kyD_of ek]
      exact (kyv_of I (hm2 _ (kk v hv)).1 (rel v hv) ek).2.1
    · have z := (Bool.and_eq_true_iff.mp (List.all_eq_true.mp qc _ (hm2 _ (kk v hv)).2.1)).2
      exact List.all_eq_true.mp z _ (hm2 _ (kk u hu)).2.1
    · have e' : some o = some (seqObj "list" its.toArray 0) := e.symm.trans ha'
      cases e'
      intro c
      exact absurd (Value.type.inj c) (by decide)
  · have h3 : ∀ u ∈ out, ∃ a, u = Value.ref a := fun u hu => e2 u (h2.perm.mem_iff.mp hu)
    obtain ⟨ep, he'⟩ := PyProof.Rows.sortedAll_at s.heap its out.toArray
    have pw : (out.map backV).Perm ws := by rw [e1]; exact h2.perm.map _
    have hlen : (out.map backV).length ≤ sizeLine := by rw [pw.length_eq]; exact hz
    have hp : H (s.heap.objs.size + 1) = none := I.hok.fresh (Nat.le_succ _)
    refine ⟨.ref _, upd H (s.heap.objs.size + 1) (.lst (out.map backV)), I.laid (t' := s.toks) (fun _ _ => PyProof.Rows.sortedAll_old) (Nat.le_succ _) ⟨hlen, out, ep, vals_back h3, he'⟩, rfl, push _ _ hp ?_⟩
    have es : (out.map backV).map (dOf X.K m H) = xs.mergeSort leD := by
      refine srt_items qc (by rw [← hm1]; exact pw.map _) ?_
      rw [List.map_map, List.pairwise_map]
      exact h1
    rw [← es]
    exact rds_map fun v hv => (hm2 v (pw.subset hv)).1
end
section
variable {X : Cx}
theorem rds_tup {K : PySem.W.Frag} {m : List Addr} {H : Hp} {S : Sto} {d0 : D} {v : V} {xs : List D} (rs : RS K m S H) (r : RD K m H d0 v) (q : seqOf d0 S = some xs) : ∃ a ws, v = .ref a ∧ RDs K m H xs ws ∧ (SqL K H a ws ∨ SqT K H a ws) := by
  cases d0 with
  | loc n =>
    simp only [RD] at r
    obtain ⟨a, rfl, hm⟩ := r
    obtain ⟨ws, hs, rws⟩ := rs.lst hm q
    exact ⟨a, ws, rfl, rws, .inl hs⟩
  | tup ys =>
    cases q
    simp only [RD] at r
    obtain ⟨a, ws, rfl, hs, rws⟩ := r
    exact ⟨a, ws, rfl, rws, .inr hs⟩
  | _ => cases q
theorem int_go {pins : List (Addr × Obj)} {σ : St} {H : Hp} {s : Shared} {a : Addr} {is : List Int} {Q : VK} (I : Inv X pins σ H s) (hs : SqT X.K H a (is.map V.int)) (q : ∀ (ns : List Int) (p : Addr), ns.Perm is → ns.Pairwise (· ≤ ·) → H p = none → Q (.ref p) (upd H p (.lst (ns.map V.int)))) :
    wpAny (model X.prog X.w) X.A (call (.builtin "sorted") [.ref a]) (EP X pins σ Q) X.xe s := by
  obtain ⟨its, rv, ⟨o, ho, hc, n, hd⟩, hz⟩ := I.tuple hs
  have hi := rv.ints
  refine sorted_tup SrtO.swo_int ho hc hd (by rw [← rv.length]; exact hz) (fun h2 h₁ a' _ _ => SrtO.ints_sortable hi h2) fun out h1 h2 => ?_
  obtain ⟨k1, k2, k3⟩ := SrtO.ints_out hi h1 h2
  obtain ⟨ep, he'⟩ := PyProof.Rows.sortedAll_at s.heap its out.toArray
  have hlen : ((out.map SrtO.iv).map V.int).length ≤ sizeLine := by
    rw [List.length_map] at hz ⊢
    rw [k2.length_eq]; exact hz
  refine ⟨.ref _, upd H (s.heap.objs.size + 1) (.lst ((out.map SrtO.iv).map V.int)), ?_, rfl, q _ _ k2 k3 (I.hok.fresh (Nat.le_succ _))⟩
  exact I.laid (t' := s.toks) (fun _ _ => PyProof.Rows.sortedAll_old) (Nat.le_succ _) ⟨hlen, out, ep, vals_of_ints k1, he'⟩
theorem c_sorted {k : Nat} (hr : Rm k X.A) : CallR X (.builtin "sorted") (rFL X.K fSorted) := by
  intro pins s σ H vs us Q I r h
  obtain ⟨m, S, ds, d, S', rs, rd, e, fin⟩ := h
  obtain ⟨d0, xs, ys, rfl, q, q2, rfl, rfl⟩ := fSorted_some e
  simp only [RDs] at rd
  obtain ⟨v, w, rfl, rv, rfl⟩ := rd
  obtain ⟨a, ws, rfl, rws, hs⟩ := rds_tup rs rv q
  have push : ∀ (p : Addr) (zs : List V), H p = none → RDs X.K m H ys zs → Q (.ref p) (upd H p (.lst zs)) := fun p zs hp rz => by
    obtain ⟨x3, rs3, g3⟩ := rs.push (o := .lst ys) (u := .lst zs) hp (fun m' H' x => ⟨zs, rfl, RDs.mono x _ _ rz⟩)
    refine fin _ _ _ x3 rs3 ?_
    simp only [RD]
    exact ⟨p, rfl, g3⟩
  rcases srt_some q2 with ⟨is, rfl, rfl⟩ | ⟨qc, rfl⟩
  · have ew := rds_ints rws
    subst ew
    have fini : ∀ (ns : List Int) (p : Addr), ns.Perm is → ns.Pairwise (· ≤ ·) → H p = none → Q (.ref p) (upd H p (.lst (ns.map V.int))) := fun ns' p pm st hp => push p _ hp (by
      rw [← srt_ints pm st]
      exact rds_int_map ns')
    rcases hs with hs | hs
    · exact cr_sortedI pins s σ H _ us Q I r ⟨a, is, rfl, hs, fini⟩
    · obtain ⟨u, rfl, ru⟩ := vals1 r
      obtain rfl : u = Value.ref a := ru
      exact int_go I hs fini
  · obtain ⟨u, rfl, ru⟩ := vals1 r
    obtain rfl : u = Value.ref a := ru
    have hu := hr.un
    rcases hs with hs | hs
    · obtain ⟨its, rvals, hl, hz⟩ := I.list hs
      exact srt_go (by omega) I rvals hz (fun O hS h => SrtO.sorted_ord O hl.isList (by rw [← rvals.length]; exact hz) hS h) rws qc push
    · obtain ⟨its, rvals, ⟨o, ho, hc, n, hd⟩, hz⟩ := I.tuple hs
      exact srt_go (by omega) I rvals hz (fun O hS h => sorted_tup O ho hc hd (by rw [← rvals.length]; exact hz) hS h) rws qc push
end
end L2.Z

set_option Elab.async false
set_option linter.all false
set_option maxRecDepth 100000
set_option maxHeartbeats 4000000
/-! ZD: dict of pairs with tuple keys; sorted of it. -/
namespace L2.Z
open PySem PySem.Spec PyProof.Rows
theorem dt_ok {P : Program} {w : World} {H : Hp} {h : Heap} (ok : HOk P w H h) {a a0 : Addr} {ob : Obj} (e : H a = some (.frz ob (.ext (dtAt a0 ob)))) : h.get? a = some ob ∧ (a == sysModules) = false := by
  obtain ⟨h1, ⟨h2, h3⟩, _, h4⟩ := (show ObjOk P w H h a (.frz ob (.ext (dtAt a0 ob))) from ok a _ e)
  refine ⟨h1, ?_⟩
  by_cases z : a = a0
  · rw [z]; exact h2
  · have q := (h4 h (h.update a0 fun _ => ⟨.none, none, .freed, #[]⟩) ⟨h2, h3⟩ fun o g => by
      rw [Heap.get?_update_ne _ _ _ _ z]; exact g).2
    exfalso
    have hlt : a0 < h.objs.size := Heap.lt_size h3
    have g : (h.update a0 fun _ => ⟨.none, none, .freed, #[]⟩).objs[a0]? = some ⟨.none, none, .freed, #[]⟩ := by
      unfold Heap.update
      rw [Array.getElem?_modify, if_pos rfl, Array.getElem?_eq_getElem hlt]; rfl
    unfold Heap.get? at q
    rw [g] at q
    cases q
section
variable {prog : Program} {w : World} {A : Around} {E : Value → Shared → Prop} {s : Shared}
theorem sorted_raw {d : Addr} {o : Obj} {es : Array DictEntry} {ep0 : Nat} {ltv : Value → Value → Bool} {its : List Value} {Q : Value → Shared → Prop} (hh : A.handled = none) (O : SrtO.Swo ltv) (lo : (d == sysModules) = false) (hx : o.ExactDict) (hd : o.data = .dict es ep0) (ho : s.heap.get? d = some o)
    (hits : es.toList.map (·.key) = its) (hz : its.length ≤ sizeLine)
    (hS : 2 ≤ its.length → ∀ (h1 : Heap) (tk : Nat) (a : Addr), h1.get? a = some (seqObj "list" its.toArray 0) → (∀ b ob, s.heap.get? b = some ob → b ≠ a ∧ h1.get? b = some ob) → SrtO.SortableO prog w A.in1.in1 { s with heap := h1, toks := tk } a its ltv)
    (h : ∀ (out : List Value) (h2 : Heap) (tk p ep : Nat), SrtO.Srtd ltv out → SrtO.Stb ltv out its → ∀ h1 : Heap, (∀ b ob, s.heap.get? b = some ob → h1.get? b = some ob) → (∀ b ob, h1.get? b = some ob → h2.get? b = some ob) → h1.objs.size ≤ p → h2.get? p = some (seqObj "list" out.toArray ep) → Q (.ref p) { s with heap := h2, toks := tk }) : wpAny (model prog w) A (call (.builtin "sorted") [.ref d]) Q E s := by
  have hsz : es.size = its.length := by rw [← hits, List.length_map, Array.length_toList]
  refine Calls.call_function_entry PyProof.Rows.kind_sorted PyProof.Rows.plain_sorted PyProof.Rows.entry_sorted (PyProof.Rows.args_sorted1 _) ?_
  unfold Builtin.«sorted»
  refine wpAny_bind (m := checkCount "sorted" 1 1 _) (wpAny_pure (wpAny_bind (PySem.W.kdu_collect (A := A.in1) (kdl_raw lo hx hd) hh ho (by rw [hsz]; exact hz) fun h' tk acc kp hacc => ?_)))
  have ea : acc.toList = its := by
    have hl : acc.toList.length = its.length := by rw [Array.length_toList, hacc.1, hsz]
    refine List.ext_getElem? fun j => ?_
    cases q : acc.toList[j]? with
    | none =>
      have := List.getElem?_eq_none_iff.mp q
      rw [List.getElem?_eq_none (by omega)]
    | some v =>
      obtain ⟨en, e1, e2⟩ := hacc.2 j v (by rw [← Array.getElem?_toList]; exact q)
      rw [← hits, List.getElem?_map, Array.getElem?_toList, e1, e2]; rfl
  rw [ea]
  refine wpAny_bind (wpAny_newList ?_ hz)
  have at_ : (h'.push (seqObj "list" its.toArray 0)).get? h'.objs.size = some (seqObj "list" its.toArray 0) := Heap.get?_push_size _ rfl
  have kp2 : ∀ b ob, s.heap.get? b = some ob → b ≠ h'.objs.size ∧ (h'.push (seqObj "list" its.toArray 0)).get? b = some ob := fun b ob q => ⟨Nat.ne_of_lt (Heap.lt_size (kp b ob q)), Heap.get?_push_of_some _ (kp b ob q)⟩
  show wpAny _ _ _ _ _ { s with heap := h'.push (seqObj "list" its.toArray 0), toks := tk }
  refine wpAny_bind (wpAny_holding (wpAny_call_entry PyProof.Rows.slot_list_sort ⟨_, at_, rfl⟩ PyProof.Rows.entry_list_sort
    (SrtO.list_sort_ord (s := { s with heap := h'.push (seqObj "list" its.toArray 0), toks := tk }) O at_ hz (fun h2 => hS h2 _ _ _ at_ kp2) fun out hs hb => ⟨_, rfl, ?_⟩) (PyProof.Rows.args_list_sort _)))
  obtain ⟨e', he'⟩ := PyProof.Rows.sortedHeap_at (vs := its) (out := out.toArray) at_
  refine wpAny_pure ⟨_, rfl, h out _ tk _ e' hs hb h' kp (fun b ob q => ?_) (Nat.le_refl _) he'⟩
  have hb' : b < h'.objs.size := Heap.lt_size q
  rw [PyProof.Rows.sortedHeap_old (Nat.ne_of_lt hb') (by rw [PyProof.Rows.size_push']; exact Nat.lt_succ_of_lt hb')]
  exact Heap.get?_push_of_some _ q
end
variable [HasT]
section
variable {X : Cx} {pins : List (Addr × Obj)} {σ : St} {H : Hp} {s : Shared} {m : List Addr}
theorem srt_goG {a : Addr} {xs : List D} {ws : List V} {its : List Value} {Q : VK} (hu : X.A.units + 100 < cLine) (I : Inv X pins σ H s) (rvals : Vals ws its) (hz : ws.length ≤ sizeLine)
    (run : ∀ {ltv : Value → Value → Bool} {Q : Value → Shared → Prop}, SrtO.Swo ltv → (2 ≤ its.length → ∀ (h1 : Heap) (tk : Nat) (a : Addr), h1.get? a = some (seqObj "list" its.toArray 0) → (∀ b ob, s.heap.get? b = some ob → b ≠ a ∧ h1.get? b = some ob) → SrtO.SortableO X.prog X.w X.A.in1.in1 { s with heap := h1, toks := tk } a its ltv) →
      (∀ (out : List Value) (h2 : Heap) (tk p ep : Nat), SrtO.Srtd ltv out → SrtO.Stb ltv out its → ∀ h1 : Heap, (∀ b ob, s.heap.get? b = some ob → h1.get? b = some ob) → (∀ b ob, h1.get? b = some ob → h2.get? b = some ob) → h1.objs.size ≤ p → h2.get? p = some (seqObj "list" out.toArray ep) → Q (.ref p) { s with heap := h2, toks := tk }) → wpAny (model X.prog X.w) X.A (call (.builtin "sorted") [.ref a]) Q X.xe s)
    (rws : RDs X.K m H xs ws) (qc : cmpAll xs = true)
    (push : ∀ (p : Addr) (zs : List V), H p = none → RDs X.K m H (xs.mergeSort leD) zs → Q (.ref p) (upd H p (.lst zs))) : wpAny (model X.prog X.w) X.A (call (.builtin "sorted") [.ref a]) (EP X pins σ Q) X.xe s := by
  have hall : ∀ d ∈ xs, (keyD d).isSome = true := fun d hd => (Bool.and_eq_true_iff.mp (List.all_eq_true.mp qc d hd)).1
  obtain ⟨hm1, hm2⟩ := map_dOf I rws hall
  obtain ⟨e1, e2⟩ := refs_back rvals fun x hx => (hm2 x hx).2.2
  have kk : ∀ v ∈ its, backV v ∈ ws := fun v hv => by rw [e1]; exact List.mem_map.mpr ⟨v, hv, rfl⟩
  have rel : ∀ v ∈ its, RelV (backV v) v := fun v hv => by
    obtain ⟨b, rfl⟩ := e2 v hv
    rfl
  have key : ∀ v ∈ its, ∃ ky, keyD (dOf X.K m H (backV v)) = some ky := fun v hv => Option.isSome_iff_exists.mp (hall _ (hm2 _ (kk v hv)).2.1)
  refine run (tor_K.swo fun v => kyD (dOf X.K m H (backV v))) (fun h2 h₁ tk a' ha' kp => ?_) fun out hh tk p ep h1 h2 hm kq kp hpz he' => ?_
  · refine sortable_ky (s := { s with heap := h₁, toks := tk }) (by show X.A.units + 1 + 1 + 64 < cLine; omega) (by omega) (fun v hv => ?_) (fun v hv => ?_) (fun v hv u hu => ?_) (fun o e => ?_)
    · obtain ⟨ky, ek⟩ := key v hv
      rw [kyD_of ek]
      exact (kyv_of I (hm2 _ (kk v hv)).1 (rel v hv) ek).1.keeps fun c o e _ => (kp c o e).2
    · obtain ⟨ky, ek⟩ := key v hv
      rw [kyD_of ek]
      exact (kyv_of I (hm2 _ (kk v hv)).1 (rel v hv) ek).2.1
    · have z := (Bool.and_eq_true_iff.mp (List.all_eq_true.mp qc _ (hm2 _ (kk v hv)).2.1)).2
      exact List.all_eq_true.mp z _ (hm2 _ (kk u hu)).2.1
    · have e' : some o = some (seqObj "list" its.toArray 0) := e.symm.trans ha'
      cases e'
      intro c
      exact absurd (Value.type.inj c) (by decide)
  · have h3 : ∀ u ∈ out, ∃ a, u = Value.ref a := fun u hu => e2 u (h2.perm.mem_iff.mp hu)
    have pw : (out.map backV).Perm ws := by rw [e1]; exact h2.perm.map _
    have hlen : (out.map backV).length ≤ sizeLine := by rw [pw.length_eq]; exact hz
    have I1 : Inv X pins σ H { s with heap := hm, toks := tk } := I.kept kq
    have hp : H p = none := I1.hok.fresh hpz
    refine ⟨.ref _, upd H p (.lst (out.map backV)), I1.laid (t' := tk) kp hpz ⟨hlen, out, ep, vals_back h3, he'⟩, rfl, push _ _ hp ?_⟩
    have es : (out.map backV).map (dOf X.K m H) = xs.mergeSort leD := by
      refine srt_items qc (by rw [← hm1]; exact pw.map _) ?_
      rw [List.map_map, List.pairwise_map]
      exact h1
    rw [← es]
    exact rds_map fun v hv => (hm2 v (pw.subset hv)).1
end
def kD : Key → D
  | .inl i => .int i
  | .inr x => .str x
def keysT (kvs : List (List Key × D)) : List D := kvs.map fun kv => .tup (kv.1.map kD)
def keysI : List (Key × D) → Option (List Int)
  | [] => some []
  | (.inl i, _) :: r => (keysI r).map fun is => i :: is
  | (.inr _, _) :: _ => none
@[irreducible] def fSortD : FL := fun ds S => match ds with
  | [.loc n] => match S.get n with
    | some (.dT kvs) => if kvs.length ≤ 100000 then (srt (keysT kvs)).map fun ys => (.loc S.n, S.push (.lst ys)) else none
    | some (.dK kvs) => match keysI kvs with
      | some is => if kvs.length ≤ 100000 then (srt (is.map .int)).map fun ys => (.loc S.n, S.push (.lst ys)) else none
      | none => none
    | _ => fSorted [.loc n] S
  | ds => fSorted ds S
theorem keysI_len : ∀ {kvs : List (Key × D)} {is : List Int}, keysI kvs = some is → kvs.length = is.length
  | [], is, h => by cases h; rfl
  | (.inl i, _) :: r, is, h => by
    simp only [keysI] at h
    cases q : keysI r with
    | none => rw [q] at h; cases h
    | some js => rw [q] at h; cases h; simp [keysI_len q]
  | (.inr _, _) :: _, is, h => by cases h
theorem keysI_ints {P : Program} {w : World} {K : PySem.W.Frag} {m : List Addr} {H : Hp} : ∀ {kvs : List (Key × D)} {is : List Int} {vs : List (Key × V)} {ws : List (Key × Value)} {es : List DictEntry}, keysI kvs = some is → RKs K m H kvs vs → KV vs ws → Pairs (mixKind P w) es ws → IntsAre (es.map (·.key)) is
  | [], is, vs, ws, es, h, r, kv, p => by
    cases h
    simp only [RKs] at r
    subst r
    cases kv
    cases p
    exact .nil
  | (.inl i, d) :: r0, is, vs, ws, es, h, r, kv, p => by
    simp only [keysI] at h
    cases q : keysI r0 with
    | none => rw [q] at h; cases h
    | some js =>
      rw [q] at h
      cases h
      simp only [RKs] at r
      obtain ⟨v, r', rfl, rd, rr⟩ := r
      cases kv with
      | cons k1 k2 =>
        cases p with
        | cons p1 p2 p3 =>
          have ih := keysI_ints q rr k2 p3
          rw [List.map_cons]
          rename_i wk _ e _
          have hk := k1.1
          rw [← hk] at p1
          obtain ⟨j, t, e1, e2⟩ | ⟨x, t, e1, e2⟩ := keyIs_shape (show keyIs (Sum.inl i : Key) e.key = true from p1)
          · cases e1
            rw [e2]
            exact .cons _ _ ih
          · cases e1
  | (.inr _, _) :: _, is, vs, ws, es, h, r, kv, p => by cases h
theorem rds_kD {K : PySem.W.Frag} {m : List Addr} {H : Hp} : ∀ ks : List Key, RDs K m H (ks.map kD) (ks.map kV)
  | [] => by simp only [List.map_nil, RDs]
  | .inl i :: ks => by
    simp only [List.map_cons, RDs]
    exact ⟨_, _, rfl, by simp only [kD, kV, RD], rds_kD ks⟩
  | .inr x :: ks => by
    simp only [List.map_cons, RDs]
    exact ⟨_, _, rfl, by simp only [kD, kV, RD], rds_kD ks⟩
theorem rds_kV {K : PySem.W.Frag} {m : List Addr} {H : Hp} : ∀ {ks : List Key} {vs : List V}, RDs K m H (ks.map kD) vs → vs = ks.map kV
  | [], vs, h => by simpa only [List.map_nil, RDs] using h
  | .inl i :: ks, vs, h => by
    simp only [List.map_cons, RDs, kD, RD] at h
    obtain ⟨v, r, rfl, rfl, rr⟩ := h
    rw [rds_kV rr]; rfl
  | .inr x :: ks, vs, h => by
    simp only [List.map_cons, RDs, kD, RD] at h
    obtain ⟨v, r, rfl, rfl, rr⟩ := h
    rw [rds_kV rr]; rfl
theorem keys_back {K : PySem.W.Frag} {m : List Addr} {H : Hp} : ∀ {kvs : List (List Key × D)} {es : List DictEntry}, RTs K m H kvs es → ∃ bs : List Addr, es.map (·.key) = bs.map Value.ref ∧ RDs K m H (keysT kvs) (bs.map V.ref)
  | [], es, h => by
    simp only [RTs] at h
    subst h
    exact ⟨[], rfl, by simp only [keysT, List.map_nil, RDs]⟩
  | kv :: kvs, es, h => by
    simp only [RTs] at h
    obtain ⟨e, r, b, v, rfl, h2, h3, h4, h5, t⟩ := h
    obtain ⟨bs, e1, e2⟩ := keys_back t
    refine ⟨b :: bs, by simp only [List.map_cons, h2, e1], ?_⟩
    simp only [keysT, List.map_cons, RDs] at e2 ⊢
    refine ⟨_, _, rfl, ?_, e2⟩
    simp only [RD]
    exact ⟨b, _, rfl, h3, rds_kD kv.1⟩
section
variable {X : Cx}
theorem c_sortedD {k : Nat} (hr : Rm k X.A) (hc : X.calm = true) : CallR X (.builtin "sorted") (rFL X.K fSortD) := by
  intro pins s σ H vs us Q I r h
  obtain ⟨m, S, ds, d, S', rs, rd, e, fin⟩ := h
  unfold fSortD at e
  split at e
  · rename_i n
    split at e
    · rename_i kvs eg
      split at e
      · rename_i hl
        cases q : srt (keysT kvs) with
        | none => rw [q] at e; cases e
        | some ys =>
          rw [q] at e
          simp only [Option.map_some, Option.some.injEq, Prod.mk.injEq] at e
          obtain ⟨rfl, rfl⟩ := e
          simp only [RDs, RD] at rd
          obtain ⟨v, w, rfl, ⟨a, rfl, hm⟩, rfl⟩ := rd
          obtain ⟨a0, ob, es, ep, ha, hx, hdat, rt⟩ := rs.obj hm eg
          obtain ⟨hget, hns⟩ := dt_ok I.hok ha
          obtain ⟨bs, e1, e2⟩ := keys_back rt
          obtain ⟨u, rfl, ru⟩ := vals1 r
          obtain rfl : u = Value.ref a := ru
          have push : ∀ (p : Addr) (zs : List V), H p = none → RDs X.K m H ys zs → Q (.ref p) (upd H p (.lst zs)) := fun p zs hp rz => by
            obtain ⟨x3, rs3, g3⟩ := rs.push (o := .lst ys) (u := .lst zs) hp (fun m' H' x => ⟨zs, rfl, RDs.mono x _ _ rz⟩)
            refine fin _ _ _ x3 rs3 ?_
            simp only [RD]
            exact ⟨p, rfl, g3⟩
          have hlen : bs.length = kvs.length := by
            have := e2.length
            simpa [keysT] using this.symm
          have hz : bs.length ≤ sizeLine := by rw [hlen, sizeLine_eq]; omega
          have hu := hr.un
          have go : cmpAll (keysT kvs) = true → ys = (keysT kvs).mergeSort leD → wpAny (model X.prog X.w) X.A (call (.builtin "sorted") [.ref a]) (EP X pins σ Q) X.xe s := fun qc ey => by
            subst ey
            exact srt_goG (by omega) I (vals_refs bs) (by rw [List.length_map]; exact hz) (fun O hS h => sorted_raw (I.ok.hd hc) O hns hx hdat hget e1 (by rw [List.length_map]; exact hz) hS h) e2 qc push
          rcases srt_some q with ⟨is, hk, rfl⟩ | ⟨qc, rfl⟩
          · cases kvs with
            | nil =>
              cases is with
              | nil => exact go rfl (by simp [keysT])
              | cons _ _ => cases hk
            | cons kv kvs =>
              cases is with
              | nil => cases hk
              | cons _ _ => simp [keysT] at hk
          · exact go qc rfl
      · cases e
    · rename_i kvs eg
      split at e
      · rename_i is ek
        split at e
        · rename_i hl
          have es0 : srt (is.map D.int) = some ((is.mergeSort fun a b => decide (a ≤ b)).map .int) := by
            unfold srt
            have hio : ∀ js : List Int, intsOf (js.map D.int) = some js := fun js => by
              induction js with
              | nil => rfl
              | cons i js ih => rw [List.map_cons]; simp only [intsOf, ih, Option.map_some]
            rw [hio]
          rw [es0] at e
          simp only [Option.map_some, Option.some.injEq, Prod.mk.injEq] at e
          obtain ⟨rfl, rfl⟩ := e
          simp only [RDs, RD] at rd
          obtain ⟨v, w, rfl, ⟨a, rfl, hm⟩, rfl⟩ := rd
          obtain ⟨vs', hv, rk⟩ := rs.obj hm eg
          obtain ⟨_, hns, ws, kv, o, es, ep, q1, q2, q3, _, q5, _⟩ := (show ObjOk X.prog X.w H s.heap a (.dK vs') from I.hok a _ hv)
          have hi := keysI_ints ek rk kv q5
          obtain ⟨u, rfl, ru⟩ := vals1 r
          obtain rfl : u = Value.ref a := ru
          have hz : (es.toList.map (·.key)).length ≤ sizeLine := by rw [hi.length, ← keysI_len ek, sizeLine_eq]; omega
          refine sorted_raw (I.ok.hd hc) SrtO.swo_int hns q2 q3 q1 rfl hz (fun h2 h1 tk a' _ _ => SrtO.ints_sortable hi h2) fun out h2 tk p ep' sr stb h1 kp1 kp2 hp he' => ?_
          obtain ⟨k1, k2, k3⟩ := SrtO.ints_out hi sr stb
          have hlen : ((out.map SrtO.iv).map V.int).length ≤ sizeLine := by
            rw [List.length_map, k2.length_eq, ← hi.length]; exact hz
          have I1 : Inv X pins σ H { s with heap := h1, toks := tk } := I.kept kp1
          have hp0 : H p = none := I1.hok.fresh hp
          have rz : RDs X.K m H ((is.mergeSort fun a b => decide (a ≤ b)).map .int) ((out.map SrtO.iv).map V.int) := by
            rw [← srt_ints k2 k3]
            exact rds_int_map _
          obtain ⟨x3, rs3, g3⟩ := rs.push (o := .lst ((is.mergeSort fun a b => decide (a ≤ b)).map .int)) (u := .lst ((out.map SrtO.iv).map V.int)) hp0 (fun m' H' x => ⟨_, rfl, RDs.mono x _ _ rz⟩)
          refine ⟨.ref _, upd H p (.lst ((out.map SrtO.iv).map V.int)), I1.laid (t' := tk) kp2 hp ⟨hlen, out, ep', vals_of_ints k1, he'⟩, rfl, fin _ _ _ x3 rs3 ?_⟩
          simp only [RD]
          exact ⟨p, rfl, g3⟩
        · cases e
      · cases e
    · exact c_sorted hr pins s σ H vs us Q I r ⟨m, S, _, d, S', rs, rd, e, fin⟩
  · exact c_sorted hr pins s σ H vs us Q I r ⟨m, S, _, d, S', rs, rd, e, fin⟩
end
/-! ### dict of pairs -/
def tkOf : D → Option Key
  | .int i => some (.inl i)
  | .str x => some (.inr x)
  | _ => none
def tksOf : List D → Option (List Key)
  | [] => some []
  | d :: ds => match tkOf d, tksOf ds with
    | some k, some ks => some (k :: ks)
    | _, _ => none
def pairD : D → Option (List Key × D)
  | .tup [.tup ks, d] => (tksOf ks).map fun k => (k, d)
  | _ => none
def pairsD : List D → Option (List (List Key × D))
  | [] => some []
  | d :: ds => match pairD d, pairsD ds with
    | some k, some ks => some (k :: ks)
    | _, _ => none
def putT (acc : List (List Key × D)) (kv : List Key × D) : List (List Key × D) :=
  if (acc.any fun x => decide (x.1 = kv.1)) = true then acc.map (fun x => if x.1 = kv.1 then (x.1, kv.2) else x) else acc ++ [kv]
@[irreducible] def fDictP : FL := fun ds S => match ds with
  | [.loc n] => match lstAt S n with
    | some xs => match pairsD xs with
      | some kvs => if xs.length ≤ 100000 then some (.loc S.n, S.push (.dT (kvs.foldl putT []))) else none
      | none => none
    | none => none
  | _ => none
theorem tkOf_eq {d : D} {k : Key} (h : tkOf d = some k) : d = kD k := by
  cases d <;> cases h <;> rfl
theorem tksOf_eq : ∀ {ds : List D} {ks : List Key}, tksOf ds = some ks → ds = ks.map kD
  | [], ks, h => by cases h; rfl
  | d :: ds, ks, h => by
    simp only [tksOf] at h
    split at h
    · rename_i k ks' h1 h2
      cases h
      rw [List.map_cons, tkOf_eq h1, tksOf_eq h2]
    · cases h
abbrev PT (K : PySem.W.Frag) (m : List Addr) (H : Hp) : List (List Key × D) → List (List Key × Addr × Value) → Prop :=
  Paired fun p q => p.1 = q.1 ∧ SqT K H q.2.1 (p.1.map kV) ∧ ∃ v, RelV v q.2.2 ∧ RD K m H p.2 v
section
variable {K : PySem.W.Frag} {m : List Addr} {H : Hp}
theorem PT.any {kvs : List (List Key × D)} {xs : List (List Key × Addr × Value)} (r : PT K m H kvs xs) (k : List Key) : (kvs.any fun x => decide (x.1 = k)) = (atKey xs k).isSome := by
  induction r with
  | nil => rfl
  | @cons p q ps qs h t ih =>
    obtain ⟨h1, _, _⟩ := h
    by_cases e : p.1 = k
    · have e' : q.1 = k := h1.symm.trans e
      simp [atKey, List.find?_cons, e', e]
    · have e' : ¬ q.1 = k := fun z => e (h1.trans z)
      have b : atKey (q :: qs) k = atKey qs k := by simp [atKey, List.find?_cons, e']
      rw [b, ← ih]
      simp [e]
theorem PT.repl {kvs : List (List Key × D)} {xs : List (List Key × Addr × Value)} (r : PT K m H kvs xs) (k : List Key) {d : D} {y : V} {u : Value} (ry : RelV y u) (rd : RD K m H d y) :
    PT K m H (kvs.map fun x => if x.1 = k then (x.1, d) else x) (xs.map (putAt k u)) := by
  induction r with
  | nil => exact .nil
  | @cons p q ps qs h t ih =>
    rw [List.map_cons, List.map_cons]
    refine .cons ?_ ih
    obtain ⟨h1, h2, h3⟩ := h
    unfold putAt
    by_cases e : p.1 = k
    · rw [if_pos e, if_pos (h1.symm.trans e)]; exact ⟨h1, h2, y, ry, rd⟩
    · rw [if_neg e, if_neg (fun z => e (h1.trans z))]; exact ⟨h1, h2, h3⟩
theorem PT.put {kvs : List (List Key × D)} {xs : List (List Key × Addr × Value)} (r : PT K m H kvs xs) {kd : List Key × D} {x : List Key × Addr × Value} (h : kd.1 = x.1 ∧ SqT K H x.2.1 (kd.1.map kV) ∧ ∃ v, RelV v x.2.2 ∧ RD K m H kd.2 v) :
    PT K m H (putT kvs kd) (storedH xs x.1 x.2.1 x.2.2) := by
  unfold putT storedH
  rw [r.any, ← h.1]
  obtain ⟨v, rv, rd⟩ := h.2.2
  by_cases q : (atKey xs kd.1).isSome = true
  · rw [if_pos q, if_pos q]; exact r.repl _ rv rd
  · rw [if_neg q, if_neg q]; exact Paired.snoc r ⟨rfl, h.2.1, v, rv, rd⟩
theorem PT.all : ∀ {more : List (List Key × D)} {ps : List (List Key × Addr × Value)} {kvs : List (List Key × D)} {xs : List (List Key × Addr × Value)}, PT K m H more ps → PT K m H kvs xs → PT K m H (more.foldl putT kvs) (storedAllH xs ps) := by
  intro more ps kvs xs r
  induction r generalizing kvs xs with
  | nil => exact fun q => q
  | cons h t ih =>
    intro q
    exact ih (q.put h)
theorem PT.rts {prog : Program} {w : World} {knd : HeapKind prog w (List Key)} {kvs : List (List Key × D)} {xs : List (List Key × Addr × Value)} (r : PT K m H kvs xs) : RTs K m H kvs (xs.map (entryOfKey knd)) := by
  induction r with
  | nil => simp only [List.map_nil, RTs]
  | cons h t ih =>
    obtain ⟨h1, h2, v, h3, h4⟩ := h
    simp only [List.map_cons, RTs]
    exact ⟨_, _, _, v, rfl, rfl, h2, h3, h4, ih⟩
end
section
variable {X : Cx} {pins : List (Addr × Obj)} {σ : St} {H : Hp} {s : Shared} {m : List Addr}
theorem pairsD_at (I : Inv X pins σ H s) : ∀ {xs : List D} {kvs : List (List Key × D)} {ws : List V}, pairsD xs = some kvs → RDs X.K m H xs ws →
    ∃ (Ts : List Addr) (ps : List (List Key × Addr × Value)), ws = Ts.map V.ref ∧ Ts.length = ps.length ∧ PT X.K m H kvs ps ∧ ∀ (j : Nat) (T : Addr) (x : List Key × Addr × Value), Ts[j]? = some T → ps[j]? = some x → IsTup s.heap T #[.ref x.2.1, x.2.2]
  | [], kvs, ws, h, r => by
    cases h
    simp only [RDs] at r
    subst r
    exact ⟨[], [], rfl, rfl, .nil, fun j T x e => by simp at e⟩
  | d :: ds, kvs, ws, h, r => by
    simp only [pairsD] at h
    split at h
    · rename_i kd r2 h1 h2
      cases h
      simp only [RDs] at r
      obtain ⟨v, w, rfl, rd, rr⟩ := r
      obtain ⟨Ts, ps, rfl, hl, pt, ha⟩ := pairsD_at I h2 rr
      unfold pairD at h1
      split at h1
      · rename_i ks d
        cases q : tksOf ks with
        | none => rw [q] at h1; cases h1
        | some kk =>
          rw [q] at h1
          cases h1
          have ek := tksOf_eq q
          simp only [RD, RDs] at rd
          obtain ⟨T, vs, rfl, hs, v1, r1, rfl, ⟨b, us, rfl, hb, ru⟩, v2, r3, rfl, rv2, rfl⟩ := rd
          rw [ek] at ru
          have eu : us = kk.map kV := rds_kV ru
          subst eu
          obtain ⟨its, rv, ht, _⟩ := I.tuple hs
          obtain ⟨u, y, ei, ru1, ry⟩ := vals2 rv
          subst ei
          obtain rfl : u = Value.ref b := ru1
          refine ⟨T :: Ts, (kk, b, y) :: ps, rfl, by simp [hl], .cons ⟨rfl, hb, v2, ry, rv2⟩ pt, fun j T' x e1 e2 => ?_⟩
          cases j with
          | zero => cases e1; cases e2; exact ht
          | succ j => exact ha j T' x (by simpa using e1) (by simpa using e2)
      · cases h1
    · cases h
end
section
variable {X : Cx}
theorem PT.keys {pins : List (Addr × Obj)} {σ : St} {H : Hp} {s : Shared} {m : List Addr} (I : Inv X pins σ H s) {h' : Heap} (kp : ∀ b o, b ≠ s.heap.objs.size → s.heap.get? b = some o → h'.get? b = some o) {kvs : List (List Key × D)} {ps : List (List Key × Addr × Value)} (r : PT X.K m H kvs ps) :
    ∀ x ∈ ps, (tupleKind (mixKind X.prog X.w)).is h' x.1 x.2.1 := by
  induction r with
  | nil => intro x hx; exact nomatch hx
  | @cons p q ps qs h t ih =>
    intro x hx
    rcases List.mem_cons.mp hx with e | hx
    · subst e
      obtain ⟨h1, h2, _⟩ := h
      rw [h1] at h2
      obtain ⟨its, rv, ⟨o, g1, g2, n, g3⟩, _⟩ := I.tuple h2
      exact ⟨o, its.toArray, n, kp _ _ (Nat.ne_of_lt (Heap.lt_size g1)) g1, g2, g3, by simpa using items_are rv⟩
    · exact ih x hx
theorem putT_length (kvs : List (List Key × D)) (acc : List (List Key × D)) : (kvs.foldl putT acc).length ≤ acc.length + kvs.length := by
  induction kvs generalizing acc with
  | nil => exact Nat.le_refl _
  | cons k r ih =>
    have h := ih (putT acc k)
    have h2 : (putT acc k).length ≤ acc.length + 1 := by
      unfold putT
      split
      · rw [List.length_map]; omega
      · rw [List.length_append, List.length_singleton]; omega
    rw [List.foldl_cons, List.length_cons]
    omega
theorem c_dictP {k : Nat} (hr : Rm k X.A) (hc : X.calm = true) : CallR X (.type "dict") (rFL X.K fDictP) := by
  intro pins s σ H vs us Q I r h
  obtain ⟨m, S, ds, d, S', rs, rd, e, fin⟩ := h
  unfold fDictP at e
  split at e
  · rename_i n
    split at e
    · rename_i xs eg
      split at e
      · rename_i kvs ep
        split at e
        · rename_i hl
          cases e
          simp only [RDs, RD] at rd
          obtain ⟨v, w, rfl, ⟨a, rfl, hm⟩, rfl⟩ := rd
          obtain ⟨ws, ha, rws⟩ := rs.lst hm eg
          obtain ⟨Ts, ps, rfl, hTl, pt, hat⟩ := pairsD_at I ep rws
          obtain ⟨u, rfl, ru⟩ := vals1 r
          obtain rfl : u = Value.ref a := ru
          obtain ⟨its, rv, pl, hz⟩ := I.list ha
          have ei := refs_at rv
          subst ei
          rw [List.length_map] at hz
          obtain ⟨o, n0, ho, hcl, hd, hdat⟩ := pl
          have hu := hr.un
          have P := PairArg.list (prog := X.prog) (w := X.w) a (Ts.map Value.ref).toArray (fun j => Ts.getD j 0) (ps.map fun x => (Value.ref x.2.1, x.2.2))
          refine call_dict_pairsH (knd := tupleKind (mixKind X.prog X.w)) (ps := ps) P (I.ok.hd hc) (by show X.A.units + 1 + 1 < cLine; omega) ⟨⟨o, n0, ho, hcl, hd, hdat⟩, by simp [hTl], fun j k' v' e => ?_⟩ ⟨by simp, fun i key v' e => ?_⟩ (fun h' kp x hx => ?_) (by rw [List.length_map, ← hTl]; exact hz) fun h' tk hd' kp => ?_
          · rw [List.getElem?_map] at e
            cases q : ps[j]? with
            | none => rw [q] at e; cases e
            | some x =>
              rw [q] at e
              cases e
              have hj : j < Ts.length := by rw [hTl]; exact (List.getElem?_eq_some_iff.mp q).1
              have hT : Ts[j]? = some Ts[j] := List.getElem?_eq_getElem hj
              have hg : Ts.getD j 0 = Ts[j] := by rw [List.getD_eq_getElem?_getD, hT]; rfl
              show (Ts.map Value.ref).toArray[j]? = some (Value.ref (Ts.getD j 0)) ∧ PairAt s.heap (Ts.getD j 0) (Value.ref x.2.1) x.2.2
              rw [hg]
              exact ⟨by simp [hT], .inl (hat j _ x hT q)⟩
          · have e' : (ps.map fun x => (Value.ref x.2.1, x.2.2))[i]? = some (key, v') := e
            rw [List.getElem?_map] at e'
            cases q : ps[i]? with
            | none => rw [q] at e'; cases e'
            | some x =>
              rw [q] at e'
              cases e'
              exact ⟨x.1, x.2.1, rfl, rfl⟩
          · exact pt.keys I (fun b o h1 h2 => kp b o h1 (by simp) h2) x hx
          · have hm' : (s.heap.objs.size == sysModules) = false := beq_eq_false_iff_ne.mpr (Nat.ne_of_gt I.big)
            obtain ⟨ob, es, ep', g1, g2, g3, g4, g5, g6⟩ := hd'
            have hp : H s.heap.objs.size = none := I.hok.fresh (Nat.le_refl _)
            have fr : ∀ h2 : Heap, h2.get? s.heap.objs.size = some ob → True := fun _ _ => trivial
            have ok : ObjOk X.prog X.w (upd H s.heap.objs.size (.frz ob (.ext (dtAt s.heap.objs.size ob)))) h' s.heap.objs.size (.frz ob (.ext (dtAt s.heap.objs.size ob))) :=
              ⟨g1, ⟨hm', g1⟩, ⟨ob, g1⟩, fun h1 h2 q z => ⟨q.1, z ob q.2⟩⟩
            have pt2 := PT.all pt (.nil : PT X.K m H [] [])
            have rt : RTs X.K m H (kvs.foldl putT []) es.toList := by rw [g4]; exact pt2.rts
            obtain ⟨x3, rs3, g⟩ := rs.push (o := .dT (kvs.foldl putT [])) (u := .frz ob (.ext (dtAt s.heap.objs.size ob))) hp (fun m' H' x => ⟨_, ob, es, ep', rfl, g2, g3, RTs.mono x _ _ rt⟩)
            refine ⟨.ref s.heap.objs.size, upd H s.heap.objs.size _, I.laid (t' := tk) (fun b o e => kp b o (by simp) e) (Nat.le_refl _) ok, rfl, fin _ _ _ x3 rs3 ?_⟩
            simp only [RD]
            exact ⟨_, rfl, g⟩
        · cases e
      · cases e
    · cases e
  · cases e
end
/-! ### tuple(range(..)), list(range(..)) -/
def rgD (a b : Int) : List D := (List.range (b - a).toNat).map fun i => D.int (a + (i : Nat))
def fRgT (i j : Int) (S : Sto) : Option (D × Sto) := if -100000 ≤ i ∧ i ≤ 100000 ∧ -100000 ≤ j ∧ j ≤ 100000 then some (.tup (rgD i j), S) else none
def fRgL (i j : Int) (S : Sto) : Option (D × Sto) := if -100000 ≤ i ∧ i ≤ 100000 ∧ -100000 ≤ j ∧ j ≤ 100000 then some (.loc S.n, S.push (.lst (rgD i j))) else none
@[irreducible] def fTupR1 : F1 := fun x S => match x with
  | .int n => fRgT 0 n S
  | _ => none
@[irreducible] def fTupR2 : F2 := fun x y S => match x, y with
  | .int i, .int j => fRgT i j S
  | _, _ => none
@[irreducible] def fLstR1 : F1 := fun x S => match x with
  | .int n => fRgL 0 n S
  | _ => none
@[irreducible] def fLstR2 : F2 := fun x y S => match x, y with
  | .int i, .int j => fRgL i j S
  | _, _ => none
section
variable {X : Cx} {a b : Expr} {f g : Env → M D} {p p' pos pos' : Pos}
theorem rds_rg {K : PySem.W.Frag} {m : List Addr} {H : Hp} (i : Int) : ∀ l : List Nat, RDs K m H (l.map fun k => D.int (i + (k : Nat))) (l.map fun k => V.int (i + (k : Nat)))
  | [] => by simp only [List.map_nil, RDs]
  | k :: l => by
    simp only [List.map_cons, RDs]
    exact ⟨_, _, rfl, by simp only [RD], rds_rg i l⟩
theorem rgT_fin {K : PySem.W.Frag} {m : List Addr} {S S' : Sto} {H : Hp} {i j : Int} {d : D} {Q : VK} (rs : RS K m S H) (e : fRgT i j S = some (d, S')) (fin : ∀ m' H' v, Ext m H m' H' → RS K m' S' H' → RD K m' H' d v → Q v H') :
    RgOk i j ∧ ∀ q, H q = none → Q (.ref q) (upd H q (.tup (rgV i j))) := by
  unfold fRgT at e
  split at e
  · rename_i hb
    cases e
    refine ⟨⟨by omega, by omega, by omega, by omega, by omega⟩, fun q hq => ?_⟩
    exact fin m _ _ (.new hq) (rs.new hq) (RD.newTup hq (rds_rg i _))
  · cases e
theorem rgL_fin {K : PySem.W.Frag} {m : List Addr} {S S' : Sto} {H : Hp} {i j : Int} {d : D} {Q : VK} (rs : RS K m S H) (e : fRgL i j S = some (d, S')) (fin : ∀ m' H' v, Ext m H m' H' → RS K m' S' H' → RD K m' H' d v → Q v H') :
    RgOk i j ∧ ∀ q, H q = none → Q (.ref q) (upd H q (.lst (rgV i j))) := by
  unfold fRgL at e
  split at e
  · rename_i hb
    cases e
    refine ⟨⟨by omega, by omega, by omega, by omega, by omega⟩, fun q hq => ?_⟩
    obtain ⟨x3, rs3, g3⟩ := rs.push (o := .lst (rgD i j)) (u := .lst (rgV i j)) hq (fun m' H' x => ⟨_, rfl, rds_rg i _⟩)
    refine fin _ _ _ x3 rs3 ?_
    simp only [RD]
    exact ⟨q, rfl, g3⟩
  · cases e
theorem q_tupR2 (hc : X.calm = true) (hm : X.mg "tuple" = none) (hm' : X.mg "range" = none) (ha : QE X a f) (hb : QE X b g) (hg : glB X.env.scope "tuple" = true := by kernel_rfl) (hg' : glB X.env.scope "range" = true := by kernel_rfl)
    (sa : PySem.W.isStarred a = false := by rfl) (sb : PySem.W.isStarred b = false := by rfl) : QE X (.Call (.Name "tuple" p) [.Call (.Name "range" p') [a, b] [] pos'] [] pos) (e2 fTupR2 f g) := ⟨fun W tk m S σ σv H P rs re q => by
  refine wE.of (pe_tupRg hc (glB_ok hg).1 hm (prg_2 (glB_ok hg').1 hm' (pw a) (pw b) (star1 sa) (star1 sb) (star2 (by simp [sb]))) (star1 rfl)) ?_
  refine (two ha hb tk rs re q).mono fun x H1 q1 => q1.mono fun y H2 q2 => ?_
  obtain ⟨m, S, d1, d2, d, S', rs, r1, r2, e, fin⟩ := q2
  unfold fTupR2 at e
  split at e
  · rename_i i j
    simp only [RD] at r1 r2
    exact ⟨i, j, r1, r2, rgT_fin rs e fin⟩
  · cases e⟩
theorem q_lstR2 (hc : X.calm = true) (hm : X.mg "list" = none) (hm' : X.mg "range" = none) (ha : QE X a f) (hb : QE X b g) (hg : glB X.env.scope "list" = true := by kernel_rfl) (hg' : glB X.env.scope "range" = true := by kernel_rfl)
    (sa : PySem.W.isStarred a = false := by rfl) (sb : PySem.W.isStarred b = false := by rfl) : QE X (.Call (.Name "list" p) [.Call (.Name "range" p') [a, b] [] pos'] [] pos) (e2 fLstR2 f g) := ⟨fun W tk m S σ σv H P rs re q => by
  refine wE.of (pe_listRg hc (glB_ok hg).1 hm (prg_2 (glB_ok hg').1 hm' (pw a) (pw b) (star1 sa) (star1 sb) (star2 (by simp [sb]))) (star1 rfl)) ?_
  refine (two ha hb tk rs re q).mono fun x H1 q1 => q1.mono fun y H2 q2 => ?_
  obtain ⟨m, S, d1, d2, d, S', rs, r1, r2, e, fin⟩ := q2
  unfold fLstR2 at e
  split at e
  · rename_i i j
    simp only [RD] at r1 r2
    exact ⟨i, j, r1, r2, rgL_fin rs e fin⟩
  · cases e⟩
theorem q_tupR1 (hc : X.calm = true) (hm : X.mg "tuple" = none) (hm' : X.mg "range" = none) (ha : QE X a f) (hg : glB X.env.scope "tuple" = true := by kernel_rfl) (hg' : glB X.env.scope "range" = true := by kernel_rfl)
    (sa : PySem.W.isStarred a = false := by rfl) : QE X (.Call (.Name "tuple" p) [.Call (.Name "range" p') [a] [] pos'] [] pos) (e1 fTupR1 f) := ⟨fun W tk m S σ σv H P rs re q => by
  refine wE.of (pe_tupRg hc (glB_ok hg).1 hm (prg_1 (glB_ok hg').1 hm' (pw a) (star1 sa)) (star1 rfl)) ?_
  refine (one ha tk rs re q).mono fun x H1 q1 => ?_
  obtain ⟨m, S, d1, d, S', rs, r1, e, fin⟩ := q1
  unfold fTupR1 at e
  split at e
  · rename_i i
    simp only [RD] at r1
    exact ⟨i, r1, rgT_fin rs e fin⟩
  · cases e⟩
theorem q_lstR1 (hc : X.calm = true) (hm : X.mg "list" = none) (hm' : X.mg "range" = none) (ha : QE X a f) (hg : glB X.env.scope "list" = true := by kernel_rfl) (hg' : glB X.env.scope "range" = true := by kernel_rfl)
    (sa : PySem.W.isStarred a = false := by rfl) : QE X (.Call (.Name "list" p) [.Call (.Name "range" p') [a] [] pos'] [] pos) (e1 fLstR1 f) := ⟨fun W tk m S σ σv H P rs re q => by
  refine wE.of (pe_listRg hc (glB_ok hg).1 hm (prg_1 (glB_ok hg').1 hm' (pw a) (star1 sa)) (star1 rfl)) ?_
  refine (one ha tk rs re q).mono fun x H1 q1 => ?_
  obtain ⟨m, S, d1, d, S', rs, r1, e, fin⟩ := q1
  unfold fLstR1 at e
  split at e
  · rename_i i
    simp only [RD] at r1
    exact ⟨i, r1, rgL_fin rs e fin⟩
  · cases e⟩
end
end L2.Z

set_option Elab.async false
set_option linter.all false
set_option maxRecDepth 100000
set_option maxHeartbeats 4000000
/-! ZV: comprehensions with two fors. -/
namespace L2.Z
open PySem PySem.Spec PyProof.Rows
variable [HasT]
section
variable {X : Cx} {elt tg : Expr} {ifs : List Expr} {scope : Scope} {vs : List Nat} {t : Tg} {tt : Env → M Bool} {f : Env → M D}
/-- the turns of one for, its items appended to the list at n; behind them Fin -/
theorem lc_loop {J : It} {it : Itm} {m0 : List Addr} {H0 : Hp} {S0 : Sto} {n : Nat} {D0 : Addr} {σ : Env} {σv : St} {ws : List Nat} {Fin : Sto → List Addr → Hp → Prop} {NxF : Hp → Prop} {k0 : Nat} (ji : JIt X.K J it m0 H0)
    (hg : ∀ s H C cl fp, QG (Bk X scope s H C cl fp) tg vs t) (ht : ∀ s H C cl fp, QTs (Bk X scope s H C cl fp) ifs tt) (he : ∀ s H C cl fp, QE (Bk X scope s H C cl fp) elt f) (hv : ∀ i ∈ vs, i ∈ ws)
    (rs : RS X.K m0 S0 H0) (re : RE X.K m0 H0 (wipeE σ ws) (L2.wipe σv ws)) (gn0 : m0[n]? = some D0)
    (p : PostG X.K X.mg m0 H0 (lcL it t tt f n (wipeE σ ws) k0 0 S0) (fun _ S' m' H' => Fin S' m' H') (fun _ _ _ => False))
    (hfin : ∀ S m H, RS X.K m S H → Ext m0 H0 m H → Fin S m H → NxF H) :
    ∃ W : Nat → Nat → Hp → Prop, (∃ m, W 0 m H0) ∧ ∀ i k H, W i k H → (J.stop i H ∧ NxF H) ∨ (J.go i H ∧ ∃ Nx : Hp → Prop, (∀ H', Nx H' → ∃ k', k' < k ∧ W (i + 1) k' H') ∧ ∀ x H', J.yld i H x H' → gB X scope tg x (L2.wipe σv ws) H' fun σ2 H2 => L2.wipe σ2 ws = L2.wipe σv ws ∧ ttB X scope ifs σ2 H2 fun b H3 =>
      if b = true then teB X scope elt σ2 H3 fun y H4 => ∃ acc, H4 D0 = some (.lst acc) ∧ acc.length < sizeLine ∧ Nx (upd H4 D0 (.lst (acc ++ [y]))) else Nx H3) := by
  refine ⟨fun i k H' => ∃ m S, RS X.K m S H' ∧ Ext m0 H0 m H' ∧ PostG X.K X.mg m H' (lcL it t tt f n (wipeE σ ws) k i S) (fun _ S' m' H'' => Fin S' m' H'') (fun _ _ _ => False), ⟨k0, m0, S0, rs, .refl _ _, p⟩, ?_⟩
  rintro i k H' ⟨m2, S2, rs2, x2, q2⟩
  have gn : m2[n]? = some D0 := pre_get x2.pre gn0
  cases k with
  | zero => exact q2.elim
  | succ k =>
    unfold lcL at q2
    cases en : nxt it i S2 with
    | none => rw [en] at q2; exact q2.elim
    | some o =>
      rw [en] at q2
      cases o with
      | none => exact .inl ⟨ji.stop m2 S2 H' i x2 rs2 en, hfin S2 m2 H' rs2 x2 (q2 m2 H' (.refl _ _) rs2)⟩
      | some d =>
        obtain ⟨g1, g2⟩ := ji.go m2 S2 H' i d x2 rs2 en
        refine .inr ⟨g1, fun H'' => ∃ m S, RS X.K m S H'' ∧ Ext m0 H0 m H'' ∧ PostG X.K X.mg m H'' (lcL it t tt f n (wipeE σ ws) k (i + 1) S) (fun _ S' m' H'' => Fin S' m' H'') (fun _ _ _ => False), fun H'' h => ⟨k, Nat.lt_succ_self _, h⟩, fun x H3 hy => ?_⟩
        obtain ⟨rs3, x3, rd3⟩ := g2 x H3 hy
        have re3 : RE X.K m2 H3 (wipeE σ ws) (L2.wipe σv ws) := re.mono (x2.trans x3)
        cases et : t d (wipeE σ ws) with
        | none => simp only [et] at q2; exact q2.elim
        | some σ3 =>
          simp only [et] at q2
          intro s0 H0' C cl fp
          refine (hg s0 H0' C cl fp).run m2 S2 _ σ3 _ H3 d x _ rs3 re3 rd3 et fun σv3 re4 on => ⟨?_, ?_⟩
          · exact on.wipe hv
          intro s1 H1' C1 cl1 fp1 pins s I
          have q3 := PostG.ext q2 x3
          have q4 : PostG X.K X.mg m2 H3 (tt σ3 S2) (fun b S4 m4 H4 => match b with
              | false => PostG X.K X.mg m4 H4 (lcL it t tt f n (wipeE σ ws) k (i + 1) S4) (fun _ S' m' H'' => Fin S' m' H'') (fun _ _ _ => False)
              | true => PostG X.K X.mg m4 H4 (f σ3 S4) (fun y S5 m5 H5 => ∃ acc, S5.get n = some (.lst acc) ∧ acc.length < sizeLine ∧ PostG X.K X.mg m5 H5 (lcL it t tt f n (wipeE σ ws) k (i + 1) (S5.set n (.lst (acc ++ [y])))) (fun _ S' m' H'' => Fin S' m' H'') (fun _ _ _ => False)) (fun _ _ _ => False)) (fun _ _ _ => False) := by
            cases e1 : tt σ3 S2 with
            | bad => simp only [e1] at q3; exact q3
            | exc y S4 => simp only [e1] at q3; exact q3.elim
            | ok b S4 =>
              cases b with
              | false => simp only [e1] at q3; exact fun m' H'' x' rs' => PostG.ext q3 x'
              | true =>
                simp only [e1] at q3
                intro m4 H4 x4 rs4
                show PostG X.K X.mg m4 H4 (f σ3 S4) _ _
                cases e2 : f σ3 S4 with
                | bad => simp only [e2] at q3; exact q3
                | exc y S5 => simp only [e2] at q3; exact q3.elim
                | ok y S5 =>
                  simp only [e2] at q3
                  intro m5 H5 x5 rs5
                  cases e3 : S5.get n with
                  | none => simp only [e3] at q3; exact q3.elim
                  | some o5 =>
                    cases o5 with
                    | lst acc =>
                      simp only [e3] at q3
                      cases e4 : Nat.blt acc.length sizeLine with
                      | false => simp only [e4] at q3; exact q3.elim
                      | true =>
                        simp only [e4] at q3
                        exact ⟨acc, rfl, Nat.le_of_ble_eq_true e4, PostG.ext q3 (x4.trans x5)⟩
                    | fz _ => simp only [e3] at q3; exact q3.elim
                    | dK _ => simp only [e3] at q3; exact q3.elim
                    | dT _ => simp only [e3] at q3; exact q3.elim
                    | fd _ => simp only [e3] at q3; exact q3.elim
          refine thn ((ht s1 H1' C1 cl1 fp1).run (fun _ _ _ _ => False) takes0 m2 S2 σ3 σv3 H3 _ rs3 re4 q4 pins s I) ?_
          rintro b s4 ⟨H4, I4, S4, m4, rs4, x4, q5⟩
          refine ⟨H4, I4, ?_⟩
          cases b with
          | false => exact iteF ⟨m4, S4, rs4, (x2.trans x3).trans x4, q5⟩
          | true =>
            refine iteT ?_
            intro s5 H5' C5 cl5 fp5
            refine ((he s5 H5' C5 cl5 fp5).run (fun _ _ _ _ => False) takes0 m4 S4 σ3 σv3 H4 _ rs4 (re4.mono x4) q5).mono ?_
            rintro y H5 ⟨d5, S5, m5, rs5, rd5, x5, acc, ea, hl, q6⟩
            have gn5 : m5[n]? = some D0 := pre_get (x4.trans x5).pre (pre_get (x3.pre) gn)
            obtain ⟨us, hw, rr⟩ := rs5.obj gn5 ea
            obtain ⟨x6, rs6⟩ := rs5.set (o := .lst (acc ++ [d5])) (u := .lst (us ++ [y])) gn5 ea hw (fun _ z => nomatch z) (fun _ _ z => nomatch z) (fun m' H'' x' => ⟨_, rfl, RDs.snoc (RDs.mono x' _ _ rr) (RD.mono x' _ _ rd5)⟩)
            exact ⟨us, hw, by rw [← rr.length]; exact hl, m5, _, rs6, (((x2.trans x3).trans x4).trans x5).trans x6, PostG.ext q6 x6⟩
end
/-! ### two fors -/
def lc2L (it : Itm) (t : Tg) (tt : Env → M Bool) (src1 : Env → M Itm) (vs1 : List Nat) (t1 : Tg) (tt1 : Env → M Bool) (f : Env → M D) (n : Nat) (σ : Env) : Nat → Nat → M Unit
  | 0, _ => bad
  | k + 1, i => fun S => match nxt it i S with
    | none => .bad
    | some none => .ok () S
    | some (some d) => match t d σ with
      | none => .bad
      | some σ1 => match tt σ1 S with
        | .ok false S1 => lc2L it t tt src1 vs1 t1 tt1 f n σ k (i + 1) S1
        | .ok true S1 => match src1 σ1 S1 with
          | .ok it1 S2 => match lcL it1 t1 tt1 f n (wipeE σ1 vs1) (cnt it1 S2) 0 S2 with
            | .ok _ S3 => lc2L it t tt src1 vs1 t1 tt1 f n σ k (i + 1) S3
            | _ => .bad
          | _ => .bad
        | _ => .bad
def eLc2 (vs : List Nat) (src : Env → M Itm) (t : Tg) (tt : Env → M Bool) (src1 : Env → M Itm) (vs1 : List Nat) (t1 : Tg) (tt1 : Env → M Bool) (f : Env → M D) : Env → M D := fun σ => bnd (src σ) fun it S => match lc2L it t tt src1 vs1 t1 tt1 f S.n (wipeE σ vs) (cnt it S) 0 (S.push (.lst [])) with
  | .ok _ S' => .ok (.loc S.n) S'
  | _ => .bad
def wIB (X : Cx) (scope : Scope) (tg iter : Expr) : TI := fun σ H R => ∀ s H0 C cl fp, wI (Bk X scope s H0 C cl fp) tg iter σ H R
section
variable {X : Cx} {elt tg iter tg1 iter1 : Expr} {ifs ifs1 : List Expr} {scope : Scope} {own : List (Str × Nat)} {pos : Pos} {src src1 : Env → M Itm} {vs vs1 : List Nat} {t t1 : Tg} {tt tt1 : Env → M Bool} {f : Env → M D}
theorem piB : ∀ (s : Shared) (H : Hp) (C : Addr) (cl : List (Str × Addr)) (fp : List Addr), PI (X.blk s H scope (compEnvC scope cl C X.env) fp) tg1 iter1 (wIB X scope tg1 iter1) := fun s H C cl fp => ⟨fun pins s1 σ H1 R I h => h s H C cl fp pins s1 I⟩
theorem lc2_reads (hi : QI X tg iter src) (hg : ∀ s H C cl fp, QG (Bk X scope s H C cl fp) tg vs t) (ht : ∀ s H C cl fp, QTs (Bk X scope s H C cl fp) ifs tt) (hi1 : ∀ s H C cl fp, QI (Bk X scope s H C cl fp) tg1 iter1 src1) (hg1 : ∀ s H C cl fp, QG (Bk X scope s H C cl fp) tg1 vs1 t1) (ht1 : ∀ s H C cl fp, QTs (Bk X scope s H C cl fp) ifs1 tt1)
    (he : ∀ s H C cl fp, QE (Bk X scope s H C cl fp) elt f) (hv : ∀ i ∈ vs, i ∈ own.map (·.2))
    {W : WX} (tk : Takes X W) {m : List Addr} {S : Sto} {σ : Env} {σv : St} {H : Hp} {P : D → Sto → List Addr → Hp → Prop} {Q : VK} (rs : RS X.K m S H) (re : RE X.K m H σ σv)
    (p : PostG X.K X.mg m H (eLc2 (own.map (·.2)) src t tt src1 vs1 t1 tt1 f σ S) P (fun c d H' => W c d σv H')) (hQ : ∀ v H', GV X.K m H P v H' → Q v H') :
    tLc2 (wI X tg iter) (gB X scope tg) (ttB X scope ifs) (wIB X scope tg1 iter1) (gB X scope tg1) (ttB X scope ifs1) (teB X scope elt) (own.map (·.2)) vs1 σv H Q := by
  refine (hi.run W tk m S σ σv H _ rs re p.bnd).mono ?_
  rintro J H1 ⟨it, S1, m1, rs1, ji, x1, q1⟩
  intro D0 hD
  obtain ⟨xp, rsp, gp⟩ := rs1.push (o := .lst []) (u := .lst []) hD (fun m' H' x => ⟨[], rfl, by simp only [RDs]⟩)
  generalize hσ0 : wipeE σ (own.map (·.2)) = σ0 at q1
  refine ⟨fun i n H' => ∃ m S, RS X.K m S H' ∧ Ext (m1 ++ [D0]) (upd H1 D0 (.lst [])) m H' ∧ PostG X.K X.mg m H' (lc2L it t tt src1 vs1 t1 tt1 f S1.n σ0 n i S) (fun _ S' m' H'' => P (.loc S1.n) S' m' H'') (fun _ _ _ => False), ⟨cnt it S1, m1 ++ [D0], S1.push (.lst []), rsp, .refl _ _, ?_⟩, ?_⟩
  · have q2 := PostG.ext q1 xp
    cases el : lc2L it t tt src1 vs1 t1 tt1 f S1.n σ0 (cnt it S1) 0 (S1.push (.lst [])) with
    | ok u S' => simp only [el] at q2; exact q2
    | exc y S' => simp only [el] at q2; exact q2.elim
    | bad => simp only [el] at q2; exact q2
  · rintro i n H' ⟨m2, S2, rs2, x2, q2⟩
    have gn : m2[S1.n]? = some D0 := pre_get x2.pre gp
    cases n with
    | zero => exact q2.elim
    | succ n =>
      unfold lc2L at q2
      cases en : nxt it i S2 with
      | none => rw [en] at q2; exact q2.elim
      | some o =>
        rw [en] at q2
        cases o with
        | none =>
          refine .inl ⟨ji.stop m2 S2 H' i (xp.trans x2) rs2 en, hQ _ _ ⟨.loc S1.n, S2, m2, rs2, ?_, (x1.trans xp).trans x2, q2 m2 H' (.refl _ _) rs2⟩⟩
          simp only [RD]
          exact ⟨D0, rfl, gn⟩
        | some d =>
          obtain ⟨g1, g2⟩ := ji.go m2 S2 H' i d (xp.trans x2) rs2 en
          refine .inr ⟨g1, fun H'' => ∃ m S, RS X.K m S H'' ∧ Ext (m1 ++ [D0]) (upd H1 D0 (.lst [])) m H'' ∧ PostG X.K X.mg m H'' (lc2L it t tt src1 vs1 t1 tt1 f S1.n σ0 n (i + 1) S) (fun _ S' m' H'' => P (.loc S1.n) S' m' H'') (fun _ _ _ => False), fun H'' h => ⟨n, Nat.lt_succ_self _, h⟩, fun x H3 hy => ?_⟩
          obtain ⟨rs3, x3, rd3⟩ := g2 x H3 hy
          have re3 : RE X.K m2 H3 σ0 (L2.wipe σv (own.map (·.2))) := by
            rw [← hσ0]
            exact (((re.mono x1).mono xp).mono (x2.trans x3)).wipe _
          cases et : t d σ0 with
          | none => simp only [et] at q2; exact q2.elim
          | some σ3 =>
            simp only [et] at q2
            intro s0 H0 C cl fp
            refine (hg s0 H0 C cl fp).run m2 S2 _ σ3 _ H3 d x _ rs3 re3 rd3 et fun σv3 re4 on => ⟨on.wipe hv, ?_⟩
            intro s1 H1' C1 cl1 fp1 pins s I
            have q3 := PostG.ext q2 x3
            have q4 : PostG X.K X.mg m2 H3 (tt σ3 S2) (fun k S4 m4 H4 => match k with
                | false => PostG X.K X.mg m4 H4 (lc2L it t tt src1 vs1 t1 tt1 f S1.n σ0 n (i + 1) S4) (fun _ S' m' H'' => P (.loc S1.n) S' m' H'') (fun _ _ _ => False)
                | true => PostG X.K X.mg m4 H4 (src1 σ3 S4) (fun it1 S5 m5 H5 => PostG X.K X.mg m5 H5 (lcL it1 t1 tt1 f S1.n (wipeE σ3 vs1) (cnt it1 S5) 0 S5) (fun _ S6 m6 H6 => PostG X.K X.mg m6 H6 (lc2L it t tt src1 vs1 t1 tt1 f S1.n σ0 n (i + 1) S6) (fun _ S' m' H'' => P (.loc S1.n) S' m' H'') (fun _ _ _ => False)) (fun _ _ _ => False)) (fun _ _ _ => False)) (fun _ _ _ => False) := by
              cases e1 : tt σ3 S2 with
              | bad => simp only [e1] at q3; exact q3
              | exc y S4 => simp only [e1] at q3; exact q3.elim
              | ok k S4 =>
                cases k with
                | false => simp only [e1] at q3; exact fun m' H'' x' rs' => PostG.ext q3 x'
                | true =>
                  simp only [e1] at q3
                  intro m4 H4 x4 rs4
                  show PostG X.K X.mg m4 H4 (src1 σ3 S4) _ _
                  cases e2 : src1 σ3 S4 with
                  | bad => simp only [e2] at q3; exact q3
                  | exc y S5 => simp only [e2] at q3; exact q3.elim
                  | ok it1 S5 =>
                    simp only [e2] at q3
                    intro m5 H5 x5 rs5
                    cases e3 : lcL it1 t1 tt1 f S1.n (wipeE σ3 vs1) (cnt it1 S5) 0 S5 with
                    | bad => simp only [e3] at q3; exact q3
                    | exc y S6 => simp only [e3] at q3; exact q3.elim
                    | ok u S6 =>
                      simp only [e3] at q3
                      intro m6 H6 x6 rs6
                      exact PostG.ext q3 ((x4.trans x5).trans x6)
            refine thn ((ht s1 H1' C1 cl1 fp1).run (fun _ _ _ _ => False) takes0 m2 S2 σ3 σv3 H3 _ rs3 re4 q4 pins s I) ?_
            rintro k s4 ⟨H4, I4, S4, m4, rs4, x4, q5⟩
            refine ⟨H4, I4, ?_⟩
            cases k with
            | false => exact iteF ⟨m4, S4, rs4, (x2.trans x3).trans x4, q5⟩
            | true =>
              refine iteT ?_
              intro s5 H5' C5 cl5 fp5
              refine ((hi1 s5 H5' C5 cl5 fp5).run (fun _ _ _ _ => False) takes0 m4 S4 σ3 σv3 H4 _ rs4 (re4.mono x4) q5).mono ?_
              rintro J1 H5 ⟨it1, S5, m5, rs5, ji1, x5, q6⟩
              have gn5 : m5[S1.n]? = some D0 := pre_get (x4.trans x5).pre (pre_get (x3.pre) gn)
              exact lc_loop ji1 hg1 ht1 he (fun _ h => h) rs5 ((re4.mono (x4.trans x5)).wipe vs1) gn5 q6 (fun S6 m6 H6 rs6 x6 q7 => ⟨m6, S6, rs6, (((x2.trans x3).trans x4).trans x5).trans x6, q7⟩)
theorem q_lc2 (own : List (Str × Nat)) (hc : X.calm = true) (hN : X.N.Nodup) (hi : QI X tg iter src) (ok : BlkOk X.N X.env.scope scope own) (hg : ∀ s H C cl fp, QG (Bk X scope s H C cl fp) tg vs t) (ht : ∀ s H C cl fp, QTs (Bk X scope s H C cl fp) ifs tt) (hi1 : ∀ s H C cl fp, QI (Bk X scope s H C cl fp) tg1 iter1 src1) (hg1 : ∀ s H C cl fp, QG (Bk X scope s H C cl fp) tg1 vs1 t1) (ht1 : ∀ s H C cl fp, QTs (Bk X scope s H C cl fp) ifs1 tt1)
    (he : ∀ s H C cl fp, QE (Bk X scope s H C cl fp) elt f) (hv : ∀ i ∈ vs, i ∈ own.map (·.2)) (hv1 : ∀ i ∈ vs1, i ∈ own.map (·.2)) (hs : ∀ x, foldedSetIterable iter X.env x = pure x := by intro _; rfl) (hs1 : ∀ env x, foldedSetIterable iter1 env x = pure x := by intro _ _; rfl) :
    QE X (.ListComp elt [⟨tg, iter, ifs, 0⟩, ⟨tg1, iter1, ifs1, 0⟩] scope pos) (eLc2 (own.map (·.2)) src t tt src1 vs1 t1 tt1 f) := ⟨fun W tk m S σ σv H P rs re p =>
  wE.of (pe_lc2 hc hN (piw tg iter) ok hv1 pgB ptB piB pgB ptB peB hs hs1) (lc2_reads hi hg ht hi1 hg1 ht1 he hv tk rs re p fun _ _ h => h)⟩
theorem qs_setLc2 (i : Nat) (own : List (Str × Nat)) {y : Str} {py spos : Pos} (hc : X.calm = true) (hN : X.N.Nodup) (hi : QI X tg iter src) (ok : BlkOk X.N X.env.scope scope own) (hg : ∀ s H C cl fp, QG (Bk X scope s H C cl fp) tg vs t) (ht : ∀ s H C cl fp, QTs (Bk X scope s H C cl fp) ifs tt) (hi1 : ∀ s H C cl fp, QI (Bk X scope s H C cl fp) tg1 iter1 src1) (hg1 : ∀ s H C cl fp, QG (Bk X scope s H C cl fp) tg1 vs1 t1) (ht1 : ∀ s H C cl fp, QTs (Bk X scope s H C cl fp) ifs1 tt1)
    (he : ∀ s H C cl fp, QE (Bk X scope s H C cl fp) elt f) (hv : ∀ i ∈ vs, i ∈ own.map (·.2)) (hv1 : ∀ i ∈ vs1, i ∈ own.map (·.2)) (hsw : swapsWith (.ListComp elt [⟨tg, iter, ifs, 0⟩, ⟨tg1, iter1, ifs1, 0⟩] scope pos) (some (.Name y py)) spos.line X.env = pure true) (hy : X.N[i]? = some y := by kernel_rfl) (hyl : X.env.scope.names.lookup y = some .local := by kernel_rfl)
    (hs : ∀ x, foldedSetIterable iter X.env x = pure x := by intro _; rfl) (hs1 : ∀ env x, foldedSetIterable iter1 env x = pure x := by intro _ _; rfl) : QS X (.Assign [.Name y py] (.ListComp elt [⟨tg, iter, ifs, 0⟩, ⟨tg1, iter1, ifs1, 0⟩] scope pos) spos) (sSet i (eLc2 (own.map (·.2)) src t tt src1 vs1 t1 tt1 f)) := ⟨fun W tk m S σ σv H Dn rs re p => by
  refine wS.of (ps_setLc2 hc hN hy hyl hsw (piw tg iter) ok hv1 pgB ptB piB pgB ptB peB hs hs1) ?_
  refine lc2_reads hi hg ht hi1 hg1 ht1 he hv tk rs re (PostS.sE re p) ?_
  rintro v H1 ⟨d, S1, m1, rs1, r1, x1, q1⟩
  exact q1 m1 H1 _ (.refl _ _) rs1 ((re.mono x1).set r1 i)⟩
end
end L2.Z

set_option Elab.async false
set_option linter.all false
set_option maxRecDepth 100000
set_option maxHeartbeats 4000000
/-! ZM: max of a list of pairs of ints. -/
namespace L2.Z
open PySem PySem.Spec PyProof.Rows
mutual
theorem reads_uniq {h : Heap} : ∀ (d : PyData) (v : Value) (as : List Addr) (e : PyData) (bs : List Addr), d.canLay0 = true → Reads h v d as → Reads h v e bs → d = e
  | .none, _, _, _, _, _, r, q => by cases r; cases q; rfl
  | .bool _, _, _, _, _, _, r, q => by cases r; cases q; rfl
  | .int _, _, _, _, _, _, r, q => by cases r; cases q; rfl
  | .str _, _, _, _, _, _, r, q => by cases r; cases q; rfl
  | .list xs, _, _, _, _, c, r, q => by
    cases r with
    | list ho hc hd ra =>
      cases q with
      | list ho' hc' hd' ra' =>
        rw [ho] at ho'; cases ho'
        rw [hd] at hd'; cases hd'
        rw [readsAll_uniq xs _ _ _ _ c ra ra']
      | tuple ho' hc' hd' ra' =>
        rw [ho] at ho'; cases ho'
        rw [hc] at hc'; exact absurd (Value.type.inj hc') (by decide)
      | dict ho' hc' hd' _ _ =>
        rw [ho] at ho'; cases ho'
        rw [hc] at hc'; exact absurd (Value.type.inj hc') (by decide)
  | .tuple xs, _, _, _, _, c, r, q => by
    cases r with
    | tuple ho hc hd ra =>
      cases q with
      | tuple ho' hc' hd' ra' =>
        rw [ho] at ho'; cases ho'
        rw [hd] at hd'; cases hd'
        rw [readsAll_uniq xs _ _ _ _ c ra ra']
      | list ho' hc' hd' ra' =>
        rw [ho] at ho'; cases ho'
        rw [hc] at hc'; exact absurd (Value.type.inj hc') (by decide)
      | dict ho' hc' hd' _ _ =>
        rw [ho] at ho'; cases ho'
        rw [hc] at hc'; exact absurd (Value.type.inj hc') (by decide)
  | .dict _, _, _, _, _, c, _, _ => by cases c
theorem readsAll_uniq {h : Heap} : ∀ (ds : List PyData) (vs : List Value) (as : List Addr) (es : List PyData) (bs : List Addr), PyData.canLayAll0 ds = true → ReadsAll h vs ds as → ReadsAll h vs es bs → ds = es
  | [], _, _, _, _, _, r, q => by cases r; cases q; rfl
  | d :: ds, _, _, _, _, c, r, q => by
    simp only [PyData.canLayAll0, Bool.and_eq_true] at c
    cases r with
    | cons r1 r2 =>
      cases q with
      | cons q1 q2 => rw [reads_uniq d _ _ _ _ c.1 r1 q1, readsAll_uniq ds _ _ _ _ c.2 r2 q2]
end
abbrev IP := Int × Int
def pIP (p : IP) : PyData := .tuple [.int p.1, .int p.2]
def dIP (p : IP) : D := .tup [.int p.1, .int p.2]
def vIP (p : IP) : List V := [.int p.1, .int p.2]
def ipOf : D → Option IP
  | .tup [.int i, .int j] => some (i, j)
  | _ => none
def ipsOf : List D → Option (List IP)
  | [] => some []
  | d :: ds => match ipOf d with
    | none => none
    | some p => match ipsOf ds with
      | none => none
      | some ps => some (p :: ps)
theorem ipOf_eq {d : D} {p : IP} (h : ipOf d = some p) : d = dIP p := by
  unfold ipOf at h
  split at h
  · cases h; rfl
  · cases h
theorem ipsOf_eq : ∀ {ds : List D} {ps : List IP}, ipsOf ds = some ps → ds = ps.map dIP
  | [], ps, h => by cases h; rfl
  | d :: ds, ps, h => by
    simp only [ipsOf] at h
    split at h
    · cases h
    · rename_i p hp
      split at h
      · cases h
      · rename_i qs hq
        cases h
        rw [ipOf_eq hp, ipsOf_eq hq]; rfl
theorem ipsOf_map : ∀ ps : List IP, ipsOf (ps.map dIP) = some ps
  | [] => rfl
  | p :: ps => by
    have e : ipOf (dIP p) = some p := rfl
    simp only [List.map_cons, ipsOf, e, ipsOf_map ps]
def lexP (p q : IP) : Bool := if p.1 = q.1 then decide (p.2 < q.2) else decide (p.1 < q.1)
def maxP : List IP → Option IP
  | [] => none
  | p :: ps => some (ps.foldl (fun a b => if lexP a b = true then b else a) p)
@[irreducible] def fMaxP : FL := onLst fun xs => ((ipsOf xs).bind maxP).map dIP
theorem lt_IP (p q : IP) : PySem.W.dataLt (pIP p) (pIP q) = lexP p q := by
  unfold PySem.W.dataLt pIP lexP
  simp only [PySem.W.keyToks, PySem.W.keyToksAll, List.append_nil, List.cons_append, List.nil_append]
  simp only [PyProof.Rows.lexLt, PyProof.Rows.itemLt]
  by_cases h : p.1 = q.1
  · rw [if_pos h, h]
    by_cases h2 : p.2 = q.2
    · simp [h2]
    · by_cases h3 : p.2 < q.2
      · simp [h3]
      · have h4 : q.2 < p.2 := by omega
        simp [h3, h4]
  · rw [if_neg h]
    by_cases h3 : p.1 < q.1
    · simp [h3]
    · have h4 : q.1 < p.1 := by omega
      simp [h3, h4]
theorem maxD_IP : ∀ (ps : List IP) (p : IP), PySem.W.maxD (pIP p) (ps.map pIP) = pIP (ps.foldl (fun a b => if lexP a b = true then b else a) p)
  | [], p => rfl
  | q :: ps, p => by
    have ih := maxD_IP ps (if lexP p q = true then q else p)
    unfold PySem.W.maxD at ih ⊢
    simp only [List.map_cons, List.foldl_cons, lt_IP]
    rw [← ih]
    by_cases h : lexP p q = true
    · simp [h]
    · simp [h]
def fMaxG : FL := fun ds S => match fMax1 ds S with
  | some r => some r
  | none => fMaxP ds S
variable [HasT]
section
variable {X : Cx} {pins : List (Addr × Obj)} {σ : St} {H : Hp} {s : Shared} {m : List Addr}
theorem dp_ips {K : PySem.W.Frag} : ∀ {ps : List IP} {vs : List V}, RDs K m H (ps.map dIP) vs → DpAll K H vs (ps.map pIP)
  | [], vs, h => by simp only [List.map_nil, RDs] at h; subst h; exact .nil
  | p :: ps, vs, h => by
    simp only [List.map_cons, RDs] at h
    obtain ⟨v, w, rfl, r, rr⟩ := h
    simp only [dIP, RD, RDs] at r
    obtain ⟨a, us, rfl, hs, u1, w1, rfl, rfl, u2, w2, rfl, rfl, rfl⟩ := r
    exact .cons (.tup hs (.cons (.int _) (.cons (.int _) .nil))) (dp_ips rr)
theorem c_maxP {k : Nat} (hr : Rm k X.A) (hc : X.calm = true) : CallR X (.builtin "max") (rFL X.K fMaxP) := by
  unfold fMaxP
  refine onLst_r fun pins s σ H us Q a vs m xs d I r hq t e fin => ?_
  cases q : ipsOf xs with
  | none => rw [q] at e; cases e
  | some ps =>
    rw [q] at e
    have ex := ipsOf_eq q
    subst ex
    cases ps with
    | nil => cases e
    | cons p ps =>
      simp only [Option.bind_some, maxP, Option.map_some, Option.some.injEq] at e
      subst e
      obtain ⟨its, rv, hl, _⟩ := I.list hq
      obtain ⟨u, rfl, ru⟩ := vals1 r
      obtain rfl : u = Value.ref a := ru
      obtain ⟨as, hra⟩ := Dp.readsAll I _ _ _ (dp_ips t) rv
      have dep : ∀ l : List IP, PyData.depthAll (l.map pIP) ≤ 1 := fun l => by
        induction l with
        | nil => simp [PyData.depthAll]
        | cons x l ih => simp only [List.map_cons, PyData.depthAll, pIP, PyData.depth]; omega
      have hu := hr.un
      refine PySem.W.max_list_data (I.ok.hd hc) hl.isList (x := pIP p) (xs := ps.map pIP) (as := as) (by simpa using hra) ⟨fun x hx y hy => ?_, fun x hx => ?_⟩ (by have := dep (p :: ps); simp only [List.map_cons] at this; omega) fun i v h' tk bs hv hrd hk => ?_
      · rw [← List.map_cons] at hx hy
        obtain ⟨x, _, rfl⟩ := List.mem_map.mp hx
        obtain ⟨y, _, rfl⟩ := List.mem_map.mp hy
        rfl
      · rw [← List.map_cons] at hx
        obtain ⟨x, _, rfl⟩ := List.mem_map.mp hx
        exact fun z => by cases z
      · rw [maxD_IP] at hrd
        -- the value's own pair
        have hvi : its[i]? = some v := by rw [← Array.getElem?_toList] at hv; simpa using hv
        have key : ∀ {qs : List IP} {ws : List V} {us : List Value} {j : Nat}, RDs X.K m H (qs.map dIP) ws → Vals ws us → us[j]? = some v → ∃ q w, RD X.K m H (dIP q) w ∧ RelV w v := fun {qs} => by
          induction qs with
          | nil =>
            intro ws us j h1 h2 h3
            simp only [List.map_nil, RDs] at h1
            subst h1
            cases h2
            simp at h3
          | cons q qs ih =>
            intro ws us j h1 h2 h3
            simp only [List.map_cons, RDs] at h1
            obtain ⟨w, ww, rfl, rw1, rr⟩ := h1
            cases h2 with
            | cons hh tt =>
              cases j with
              | zero =>
                simp only [List.getElem?_cons_zero, Option.some.injEq] at h3
                subst h3
                exact ⟨q, w, rw1, hh⟩
              | succ j =>
                simp only [List.getElem?_cons_succ] at h3
                exact ih rr tt h3
        obtain ⟨q1, w, rw1, hh⟩ := key (qs := p :: ps) t rv hvi
        have dp1 : Dp X.K H w (pIP q1) := by
          have := dp_ips (K := X.K) (m := m) (H := H) (ps := [q1]) (vs := [w]) (by simp only [List.map_cons, List.map_nil, RDs]; exact ⟨w, [], rfl, rw1, rfl⟩)
          cases this with
          | cons a b => exact a
        obtain ⟨bs1, rd1⟩ := Dp.reads I _ _ _ dp1 hh
        have e1 := reads_uniq (pIP q1) _ _ _ _ rfl (Reads.keeps hk rd1) hrd
        have e2 : q1 = ps.foldl (fun a b => if lexP a b = true then b else a) p := by
          generalize ps.foldl (fun a b => if lexP a b = true then b else a) p = z at e1
          obtain ⟨a1, b1⟩ := q1
          obtain ⟨a2, b2⟩ := z
          simp only [pIP, PyData.tuple.injEq, List.cons.injEq, PyData.int.injEq, and_true] at e1
          rw [e1.1, e1.2]
        rw [← e2] at fin
        exact ⟨w, H, I.kept hk, hh, fin w rw1⟩
theorem rFL_or {K : PySem.W.Frag} {f g : FL} {F : Value} (hf : CallR X F (rFL X.K f)) (hg : CallR X F (rFL X.K g)) : CallR X F (rFL X.K fun ds S => match f ds S with
    | some r => some r
    | none => g ds S) := by
  intro pins s σ H vs us Q I r h
  obtain ⟨m, S, ds, d, S', rs, rd, e, fin⟩ := h
  cases q : f ds S with
  | some z =>
    simp only [q] at e
    exact hf pins s σ H vs us Q I r ⟨m, S, ds, d, S', rs, rd, by rw [q]; exact e, fin⟩
  | none =>
    simp only [q] at e
    exact hg pins s σ H vs us Q I r ⟨m, S, ds, d, S', rs, rd, e, fin⟩
theorem c_maxG {k : Nat} (hr : Rm k X.A) (hc : X.calm = true) : CallR X (.builtin "max") (rFL X.K fMaxG) := rFL_or (K := X.K) (c_max1 hc) (c_maxP hr hc)
end
end L2.Z

set_option Elab.async false
set_option linter.all false
set_option maxRecDepth 100000
set_option maxHeartbeats 4000000
/-! ZR: repr of data. -/
namespace L2.Z
open PySem PySem.Spec PyProof.Rows
/-- data of tuples and empty dicts -/
def toPE : Nat → Sto → D → Option PyData
  | 0, _, d => toPD0 d
  | n + 1, S, d => match d with
    | .tup xs => (toPDs (toPE n S) xs).map .tuple
    | .loc k => match S.get k with
      | some (.dK []) => some (.dict [])
      | _ => none
    | d => toPD0 d
/-- what is shown -/
def toPR (S : Sto) (d : D) : Option PyData := match toPD 40 S d with
  | some p => some p
  | none => toPE 40 S d
@[irreducible] def fRepr : FL := fun ds S => match ds with
  | [d] => match toPR S d with
    | some p => if p.showable = true ∧ p.shown.length ≤ sizeLine then some (.str p.shown, S) else none
    | none => none
  | _ => none
variable [HasT]
section
variable {X : Cx} {pins : List (Addr × Obj)} {σ : St} {H : Hp} {s : Shared} {m : List Addr} {S : Sto}
theorem toPEs_reads (I : Inv X pins σ H s) {f : D → Option PyData} {n : Nat} (hf : ∀ d v u p, RD X.K m H d v → RelV v u → f d = some p → ∃ as, Reads s.heap u p as ∧ sysModules ∉ as ∧ p.depth ≤ n) :
    ∀ {ds : List D} {vs : List V} {us : List Value} {ps : List PyData}, RDs X.K m H ds vs → Vals vs us → toPDs f ds = some ps → ∃ as, ReadsAll s.heap us ps as ∧ sysModules ∉ as ∧ PyData.depthAll ps ≤ n
  | [], vs, us, ps, r, rv, e => by
    simp only [RDs] at r; subst r
    cases rv
    cases e
    exact ⟨[], .nil, by simp, by simp [PyData.depthAll]⟩
  | d :: ds, vs, us, ps, r, rv, e => by
    simp only [RDs] at r
    obtain ⟨v, vs', rfl, rd, rr⟩ := r
    cases rv with
    | cons r1 r2 =>
      unfold toPDs at e
      split at e
      · cases e
      · rename_i p ep
        split at e
        · cases e
        · rename_i ps' eps
          cases e
          obtain ⟨as, h1, h2, h3⟩ := hf _ _ _ _ rd r1 ep
          obtain ⟨bs, g1, g2, g3⟩ := toPEs_reads I hf rr r2 eps
          exact ⟨_, .cons h1 g1, by simp [h2, g2], by simp [PyData.depthAll]; omega⟩
theorem toPE_reads (I : Inv X pins σ H s) (rs : RS X.K m S H) : ∀ (n : Nat) (d : D) (v : V) (u : Value) (p : PyData), RD X.K m H d v → RelV v u → toPE n S d = some p → ∃ as, Reads s.heap u p as ∧ sysModules ∉ as ∧ p.depth ≤ n := by
  have atom : ∀ (d : D) (v : V) (u : Value) (p : PyData), RD X.K m H d v → RelV v u → toPD0 d = some p → ∃ as, Reads s.heap u p as ∧ sysModules ∉ as ∧ p.depth ≤ 0 := by
    intro d v u p r ru e
    unfold toPD0 at e
    split at e
    · cases e; simp only [RD] at r; subst r; cases ru; exact ⟨[], .none, by simp, by simp [PyData.depth]⟩
    · cases e; simp only [RD] at r; subst r; cases ru; exact ⟨[], .bool _, by simp, by simp [PyData.depth]⟩
    · cases e; simp only [RD] at r; subst r; obtain ⟨t, rfl⟩ := ru; exact ⟨[], .int _ t, by simp, by simp [PyData.depth]⟩
    · split at e
      · cases e; simp only [RD] at r; subst r; obtain ⟨t, rfl⟩ := ru; exact ⟨[], .str _ t, by simp, by simp [PyData.depth]⟩
      · cases e
    · cases e
  intro n
  induction n with
  | zero => exact fun d v u p r ru e => atom d v u p r ru e
  | succ n ih =>
    intro d v u p r ru e
    unfold toPE at e
    split at e
    · rename_i xs
      cases es : toPDs (toPE n S) xs with
      | none => rw [es] at e; cases e
      | some ps =>
        rw [es] at e
        cases e
        simp only [RD] at r
        obtain ⟨a, vs, rfl, hq, rr⟩ := r
        obtain rfl : u = Value.ref a := ru
        obtain ⟨its, rv, ⟨o, h1, h2, k, h3⟩, _⟩ := I.tuple hq
        obtain ⟨as, g1, g2, g3⟩ := toPEs_reads I ih rr rv es
        exact ⟨as, .tuple h1 h2 h3 (by simpa using g1), g2, by simp [PyData.depth]; omega⟩
    · rename_i k
      split at e
      · rename_i eg
        cases e
        simp only [RD] at r
        obtain ⟨a, rfl, hm⟩ := r
        obtain rfl : u = Value.ref a := ru
        obtain ⟨vs, h1, h2⟩ := rs.obj hm eg
        simp only [RKs] at h2
        subst h2
        obtain ⟨_, hs, kv, rel, o, es, ep, q1, q2, q3, q4⟩ := (show ObjOk X.prog X.w H s.heap a (.dK []) from I.hok a _ h1)
        cases rel
        have e0 : es.toList = [] := by
          have z := q4.2.1
          cases h : es.toList with
          | nil => rfl
          | cons a l => rw [h] at z; cases z
        refine ⟨[a] ++ [] ++ [], .dict (kvs := []) q1 q2.1 q3 ?_ ?_, ?_, by simp [PyData.depth, PyData.depthKv]⟩
        · rw [e0]; exact .nil
        · rw [e0]; exact .nil
        · simp only [List.append_nil, List.mem_singleton]
          exact fun z => by rw [← z] at hs; simp at hs
      · cases e
    · obtain ⟨as, h1, h2, h3⟩ := atom d v u p r ru e
      exact ⟨as, h1, h2, by omega⟩
theorem toPR_reads (I : Inv X pins σ H s) (rs : RS X.K m S H) {d : D} {v : V} {u : Value} {p : PyData} (r : RD X.K m H d v) (ru : RelV v u) (e : toPR S d = some p) : ∃ as, Reads s.heap u p as ∧ (p.hasDict = true → sysModules ∉ as) ∧ p.depth ≤ 40 := by
  unfold toPR at e
  split at e
  · rename_i q eq
    cases e
    obtain ⟨h1, h2, h3⟩ := toPD_dp rs 40 _ _ _ r eq
    obtain ⟨as, R1⟩ := Dp.reads I _ _ _ h1 ru
    exact ⟨as, R1, PyData.noDict_hsm (PyData.hasDict_of_canLay _ h2), h3⟩
  · obtain ⟨as, h1, h2, h3⟩ := toPE_reads I rs 40 d v u p r ru e
    exact ⟨as, h1, fun _ => h2, h3⟩
end
section
variable {X : Cx}
theorem c_repr {k : Nat} (hr : Rm k X.A) : CallR X (.builtin "repr") (rFL X.K fRepr) := by
  intro pins s σ H vs us Q I r h
  obtain ⟨m, S, ds, d, S', rs, rd, e, fin⟩ := h
  unfold fRepr at e
  split at e
  · rename_i d0
    split at e
    · rename_i p ep
      split at e
      · rename_i hb
        cases e
        simp only [RDs] at rd
        obtain ⟨v, w', rfl, rv, rfl⟩ := rd
        obtain ⟨u, rfl, ru⟩ := vals1 r
        obtain ⟨as, R1, nd, h3⟩ := toPR_reads I rs rv ru ep
        have hu := hr.un
        have fin' : ∀ (h' : Heap) (u' : Tok) (tk : Nat), (∀ b o, s.heap.get? b = some o → h'.get? b = some o) → EP X pins σ Q (.str p.shown u') { s with heap := h', toks := tk } := fun h' u' tk kp =>
          ⟨.str p.shown, H, I.kept kp, ⟨u', rfl⟩, fin m H _ (.refl _ _) rs (by simp only [RD])⟩
        have rf : (∃ a, u = .ref a) → wpAny (model X.prog X.w) X.A (call (.builtin "repr") [u]) (EP X pins σ Q) X.xe s := by
          rintro ⟨a, rfl⟩
          exact repr_of_reads' R1 hb.1 nd hr.gd (by omega) (fun _ _ e => e) (fun h' u' tk hk => fin' h' u' tk hk) hb.2
        cases p with
        | none => cases R1; exact P.repr_of_none (fin' s.heap _ _ fun _ _ e => e)
        | bool b => cases R1; exact P.repr_of_bool (fin' s.heap _ _ fun _ _ e => e)
        | int i => cases R1; exact P.repr_of_int (by have := hb.1; simpa [PyData.showable] using this) (fin' s.heap _ _ fun _ _ e => e)
        | str x => cases R1; exact P.repr_of_str (fin' s.heap _ _ fun _ _ e => e) (by have := hb.2; simpa [PyData.shown] using this)
        | list xs => exact rf (by cases R1; exact ⟨_, rfl⟩)
        | tuple xs => exact rf (by cases R1; exact ⟨_, rfl⟩)
        | dict kvs => exact rf (by cases R1; exact ⟨_, rfl⟩)
      · cases e
    · cases e
  · cases e
end
end L2.Z

set_option Elab.async false
set_option linter.all false
set_option maxRecDepth 100000
set_option maxHeartbeats 4000000
/-! ZQ: {}; * in a display; dict comprehensions. -/
namespace L2.Z
open PySem PySem.Spec PyProof.Rows
def eD0 : Env → M D := fun _ S => .ok (.loc S.n) (S.push (.dK []))
def seqM (x : D) : M (List D) := fun S => match seqOf x S with
  | some xs => .ok xs S
  | none => .bad
def aStar (f : Env → M D) (g : Env → M (List D)) : Env → M (List D) := fun σ => bnd (f σ) fun x => bnd (seqM x) fun xs => bnd (g σ) fun ys => ret (xs ++ ys)
def dcL (it : Itm) (t : Tg) (tt : Env → M Bool) (fk fv : Env → M D) (n : Nat) (σ : Env) : Nat → Nat → M Unit
  | 0, _ => bad
  | k + 1, i => fun S => match nxt it i S with
    | none => .bad
    | some none => .ok () S
    | some (some d) => match t d σ with
      | none => .bad
      | some σ1 => match tt σ1 S with
        | .ok false S1 => dcL it t tt fk fv n σ k (i + 1) S1
        | .ok true S1 => match fk σ1 S1 with
          | .ok y S2 => match fv σ1 S2 with
            | .ok z S3 => match S3.get n with
              | some (.dK kvs) => match keyOf y with
                | some kk => match Nat.blt kvs.length sizeLine with
                  | true => dcL it t tt fk fv n σ k (i + 1) (S3.set n (.dK (putD kvs kk z)))
                  | false => .bad
                | none => .bad
              | _ => .bad
            | _ => .bad
          | _ => .bad
        | _ => .bad
def eDc (vs : List Nat) (src : Env → M Itm) (t : Tg) (tt : Env → M Bool) (fk fv : Env → M D) : Env → M D := fun σ => bnd (src σ) fun it S => match dcL it t tt fk fv S.n (wipeE σ vs) (cnt it S) 0 (S.push (.dK [])) with
  | .ok _ S' => .ok (.loc S.n) S'
  | _ => .bad
variable [HasT]
section
variable {X : Cx} {pos : Pos}
theorem q_d0 : QE X (.Dict [] [] pos) eD0 := ⟨fun W tk m S σ σv H P rs re p => by
  refine wE.of pe_dnewK ?_
  intro q hq
  obtain ⟨x1, rs1, g1⟩ := rs.push (o := .dK []) (u := .dK []) hq (fun m' H' x => ⟨[], rfl, by simp only [RKs]⟩)
  refine ⟨.loc S.n, S.push (.dK []), _, rs1, ?_, x1, p _ _ x1 rs1⟩
  simp only [RD]
  exact ⟨q, rfl, g1⟩⟩
theorem qa_star {e : Expr} {es : List Expr} {f : Env → M D} {g : Env → M (List D)} {p : Pos} (ha : QE X e f) (hr : QA X es g) (hs : starEach (.Starred e p :: es) X.env = (true, eval e X.env) :: starEach es X.env := by rfl) : QA X (.Starred e p :: es) (aStar f g) := ⟨fun W tk m S σ σv H P rs re q pos pins s I => by
  refine (StX.pa_star (pw e) (paw es) hs).run pos pins s σv H _ I ?_
  refine (ha.run W tk m S σ σv H _ rs re q.bnd).mono ?_
  rintro x H1 ⟨d1, S1, m1, rs1, r1, x1, q1⟩
  have q2 := q1.bnd
  unfold seqM at q2
  cases es' : seqOf d1 S1 with
  | none => rw [es'] at q2; exact q2.elim
  | some xs =>
    rw [es'] at q2
    have q3 := q2 m1 H1 (.refl _ _) rs1
    have sq : ∃ a us, x = V.ref a ∧ (SqT X.K H1 a us ∨ SqL X.K H1 a us) ∧ RDs X.K m1 H1 xs us := by
      unfold seqOf at es'
      split at es'
      · rename_i n
        simp only [RD] at r1
        obtain ⟨a, rfl, hm⟩ := r1
        obtain ⟨us, h1, h2⟩ := rs1.lst hm es'
        exact ⟨a, us, rfl, .inr h1, h2⟩
      · cases es'
        simp only [RD] at r1
        obtain ⟨a, us, rfl, h1, h2⟩ := r1
        exact ⟨a, us, rfl, .inl h1, h2⟩
      · cases es'
    obtain ⟨a, us, rfl, hs1, hs2⟩ := sq
    refine ⟨a, us, rfl, hs1, fun pos' pins' s' I' => ?_⟩
    refine thn (hr.run W tk m1 S1 σ σv H1 _ rs1 (re.mono x1) q3.bnd pos' pins' s' I') ?_
    rintro ws s2 ⟨vs, H2, I2, rv, ds, S2, m2, rs2, r2, x2, q4⟩
    exact ⟨vs, H2, I2, rv, xs ++ ds, S2, m2, rs2, RDs.append (RDs.mono x2 _ _ hs2) r2, x1.trans x2, q4 m2 H2 (.refl _ _) rs2⟩⟩
end
section
variable {X : Cx} {kx vx tg iter : Expr} {ifs : List Expr} {scope : Scope} {own : List (Str × Nat)} {pos : Pos} {src : Env → M Itm} {vs : List Nat} {t : Tg} {tt : Env → M Bool} {fk fv : Env → M D}
theorem dc_reads (hi : QI X tg iter src) (hg : ∀ s H C cl fp, QG (Bk X scope s H C cl fp) tg vs t) (ht : ∀ s H C cl fp, QTs (Bk X scope s H C cl fp) ifs tt) (hk : ∀ s H C cl fp, QE (Bk X scope s H C cl fp) kx fk) (he : ∀ s H C cl fp, QE (Bk X scope s H C cl fp) vx fv) (hv : ∀ i ∈ vs, i ∈ own.map (·.2))
    {W : WX} (tk : Takes X W) {m : List Addr} {S : Sto} {σ : Env} {σv : St} {H : Hp} {P : D → Sto → List Addr → Hp → Prop} {Q : VK} (rs : RS X.K m S H) (re : RE X.K m H σ σv)
    (p : PostG X.K X.mg m H (eDc (own.map (·.2)) src t tt fk fv σ S) P (fun c d H' => W c d σv H')) (hQ : ∀ v H', GV X.K m H P v H' → Q v H') :
    tDc (wI X tg iter) (gB X scope tg) (ttB X scope ifs) (teB X scope kx) (teB X scope vx) (own.map (·.2)) σv H Q := by
  refine (hi.run W tk m S σ σv H _ rs re p.bnd).mono ?_
  rintro J H1 ⟨it, S1, m1, rs1, ji, x1, q1⟩
  intro D0 hD
  obtain ⟨xp, rsp, gp⟩ := rs1.push (o := .dK []) (u := .dK []) hD (fun m' H' x => ⟨[], rfl, by simp only [RKs]⟩)
  let go : Nat → Nat → Hp → Prop := fun i n H' => ∃ m S, RS X.K m S H' ∧ Ext (m1 ++ [D0]) (upd H1 D0 (.dK [])) m H' ∧ PostG X.K X.mg m H' (dcL it t tt fk fv S1.n (wipeE σ (own.map (·.2))) n i S) (fun _ S' m' H'' => P (.loc S1.n) S' m' H'') (fun _ _ _ => False)
  refine ⟨go, ⟨cnt it S1, m1 ++ [D0], S1.push (.dK []), rsp, .refl _ _, ?_⟩, ?_⟩
  · have q2 := PostG.ext q1 xp
    cases el : dcL it t tt fk fv S1.n (wipeE σ (own.map (·.2))) (cnt it S1) 0 (S1.push (.dK [])) with
    | ok u S' => simp only [el] at q2; exact q2
    | exc y S' => simp only [el] at q2; exact q2.elim
    | bad => simp only [el] at q2; exact q2
  · rintro i n H' ⟨m2, S2, rs2, x2, q2⟩
    have gn : m2[S1.n]? = some D0 := pre_get x2.pre gp
    cases n with
    | zero => exact q2.elim
    | succ n =>
      unfold dcL at q2
      cases en : nxt it i S2 with
      | none => rw [en] at q2; exact q2.elim
      | some o =>
        rw [en] at q2
        cases o with
        | none =>
          refine .inl ⟨ji.stop m2 S2 H' i (xp.trans x2) rs2 en, hQ _ _ ⟨.loc S1.n, S2, m2, rs2, ?_, (x1.trans xp).trans x2, q2 m2 H' (.refl _ _) rs2⟩⟩
          simp only [RD]
          exact ⟨D0, rfl, gn⟩
        | some d =>
          obtain ⟨g1, g2⟩ := ji.go m2 S2 H' i d (xp.trans x2) rs2 en
          refine .inr ⟨g1, go (i + 1) n, fun H'' h => ⟨n, Nat.lt_succ_self _, h⟩, fun x H3 hy => ?_⟩
          obtain ⟨rs3, x3, rd3⟩ := g2 x H3 hy
          have re3 : RE X.K m2 H3 (wipeE σ (own.map (·.2))) (L2.wipe σv (own.map (·.2))) := (((re.mono x1).mono xp).mono (x2.trans x3)).wipe _
          cases et : t d (wipeE σ (own.map (·.2))) with
          | none => simp only [et] at q2; exact q2.elim
          | some σ3 =>
            simp only [et] at q2
            intro s0 H0 C cl fp
            refine (hg s0 H0 C cl fp).run m2 S2 _ σ3 _ H3 d x _ rs3 re3 rd3 et fun σv3 re4 on => ⟨on.wipe hv, ?_⟩
            intro s1 H1' C1 cl1 fp1 pins s I
            have q3 := PostG.ext q2 x3
            -- behind the test
            have q4 : PostG X.K X.mg m2 H3 (tt σ3 S2) (fun k S4 m4 H4 => match k with
                | false => PostG X.K X.mg m4 H4 (dcL it t tt fk fv S1.n (wipeE σ (own.map (·.2))) n (i + 1) S4) (fun _ S' m' H'' => P (.loc S1.n) S' m' H'') (fun _ _ _ => False)
                | true => PostG X.K X.mg m4 H4 (fk σ3 S4) (fun y S5 m5 H5 => PostG X.K X.mg m5 H5 (fv σ3 S5) (fun z S6 m6 H6 => ∃ kvs kk, S6.get S1.n = some (.dK kvs) ∧ keyOf y = some kk ∧ kvs.length < sizeLine ∧ PostG X.K X.mg m6 H6 (dcL it t tt fk fv S1.n (wipeE σ (own.map (·.2))) n (i + 1) (S6.set S1.n (.dK (putD kvs kk z)))) (fun _ S' m' H'' => P (.loc S1.n) S' m' H'') (fun _ _ _ => False)) (fun _ _ _ => False)) (fun _ _ _ => False)) (fun _ _ _ => False) := by
              cases e1 : tt σ3 S2 with
              | bad => simp only [e1] at q3; exact q3
              | exc y S4 => simp only [e1] at q3; exact q3.elim
              | ok k S4 =>
                cases k with
                | false => simp only [e1] at q3; exact fun m' H'' x' rs' => PostG.ext q3 x'
                | true =>
                  simp only [e1] at q3
                  intro m4 H4 x4 rs4
                  show PostG X.K X.mg m4 H4 (fk σ3 S4) _ _
                  cases e2 : fk σ3 S4 with
                  | bad => simp only [e2] at q3; exact q3
                  | exc y S5 => simp only [e2] at q3; exact q3.elim
                  | ok y S5 =>
                    simp only [e2] at q3
                    intro m5 H5 x5 rs5
                    cases e3 : fv σ3 S5 with
                    | bad => simp only [e3] at q3; exact q3
                    | exc z S6 => simp only [e3] at q3; exact q3.elim
                    | ok z S6 =>
                      simp only [e3] at q3
                      intro m6 H6 x6 rs6
                      cases e4 : S6.get S1.n with
                      | none => simp only [e4] at q3; exact q3.elim
                      | some o6 =>
                        cases o6 with
                        | dK kvs =>
                          simp only [e4] at q3
                          cases e5 : keyOf y with
                          | none => simp only [e5] at q3; exact q3.elim
                          | some kk =>
                            simp only [e5] at q3
                            cases e6 : Nat.blt kvs.length sizeLine with
                            | false => simp only [e6] at q3; exact q3.elim
                            | true =>
                              simp only [e6] at q3
                              exact ⟨kvs, kk, rfl, rfl, Nat.le_of_ble_eq_true e6, PostG.ext q3 ((x4.trans x5).trans x6)⟩
                        | lst _ => simp only [e4] at q3; exact q3.elim
                        | fz _ => simp only [e4] at q3; exact q3.elim
                        | dT _ => simp only [e4] at q3; exact q3.elim
                        | fd _ => simp only [e4] at q3; exact q3.elim
            refine thn ((ht s1 H1' C1 cl1 fp1).run (fun _ _ _ _ => False) takes0 m2 S2 σ3 σv3 H3 _ rs3 re4 q4 pins s I) ?_
            rintro k s4 ⟨H4, I4, S4, m4, rs4, x4, q5⟩
            refine ⟨H4, I4, ?_⟩
            cases k with
            | false => exact iteF ⟨m4, S4, rs4, (x2.trans x3).trans x4, q5⟩
            | true =>
              refine iteT ?_
              intro s5 H5' C5 cl5 fp5
              refine ((hk s5 H5' C5 cl5 fp5).run (fun _ _ _ _ => False) takes0 m4 S4 σ3 σv3 H4 _ rs4 (re4.mono x4) q5).mono ?_
              rintro y H5 ⟨d5, S5, m5, rs5, rd5, x5, q6⟩
              intro s6 H6' C6 cl6 fp6
              refine ((he s6 H6' C6 cl6 fp6).run (fun _ _ _ _ => False) takes0 m5 S5 σ3 σv3 H5 _ rs5 ((re4.mono x4).mono x5) q6).mono ?_
              rintro z H6 ⟨d6, S6, m6, rs6, rd6, x6, kvs, kk, ea, ek, hl, q7⟩
              have gn6 : m6[S1.n]? = some D0 := pre_get ((x4.trans x5).trans x6).pre (pre_get (x3.pre) gn)
              obtain ⟨ws, hw, rr⟩ := rs6.obj gn6 ea
              obtain ⟨x7, rs7⟩ := rs6.set (o := .dK (putD kvs kk d6)) (u := .dK (putK ws kk z)) gn6 ea hw (fun _ z => nomatch z) (fun _ _ z => nomatch z) (fun m' H'' x' => ⟨_, rfl, RKs.put (RD.mono x' _ _ rd6) (RKs.mono x' _ _ rr)⟩)
              exact ⟨ws, kk, keyOf_V rd5 ek, hw, by rw [← rr.length]; exact hl, m6, _, rs7, ((((x2.trans x3).trans x4).trans x5).trans x6).trans x7, PostG.ext q7 x7⟩
theorem q_dc (own : List (Str × Nat)) (hc : X.calm = true) (hN : X.N.Nodup) (hi : QI X tg iter src) (ok : BlkOk X.N X.env.scope scope own) (hg : ∀ s H C cl fp, QG (Bk X scope s H C cl fp) tg vs t) (ht : ∀ s H C cl fp, QTs (Bk X scope s H C cl fp) ifs tt)
    (hk : ∀ s H C cl fp, QE (Bk X scope s H C cl fp) kx fk) (he : ∀ s H C cl fp, QE (Bk X scope s H C cl fp) vx fv) (hv : ∀ i ∈ vs, i ∈ own.map (·.2)) (hs : ∀ x, foldedSetIterable iter X.env x = pure x := by intro _; rfl) :
    QE X (.DictComp kx vx [⟨tg, iter, ifs, 0⟩] scope pos) (eDc (own.map (·.2)) src t tt fk fv) := ⟨fun W tk m S σ σv H P rs re p =>
  wE.of (pe_dc hc hN (piw tg iter) ok pgB ptB peB peB hs) (dc_reads hi hg ht hk he hv tk rs re p fun _ _ h => h)⟩
end
/-! ### d.get -/
def chkD (x : D) : M Unit := fun S => match x with
  | .loc n => match S.get n with
    | some (.dK _) => .ok () S
    | some (.fd _) => .ok () S
    | _ => .bad
  | _ => .bad
def kvsAt (x : D) (S : Sto) : Option (List (Key × D)) := match x with
  | .loc n => match S.get n with
    | some (.dK kvs) => some kvs
    | some (.fd kvs) => some kvs
    | _ => none
  | _ => none
def fGet1 : F2 := fun x y S => match kvsAt x S, keyOf y with
  | some kvs, some k => some ((dGet kvs k).getD .non, S)
  | _, _ => none
def eGet1 (f g : Env → M D) : Env → M D := fun σ => bnd (f σ) fun x => bnd (chkD x) fun _ => bnd (g σ) fun y => up (fGet1 x y)
def fGet2 (z : D) : F2 := fun x y S => match kvsAt x S, keyOf y with
  | some kvs, some k => some ((dGet kvs k).getD z, S)
  | _, _ => none
def eGet2 (f g h : Env → M D) : Env → M D := fun σ => bnd (f σ) fun x => bnd (chkD x) fun _ => bnd (g σ) fun y => bnd (h σ) fun z => up (fGet2 z x y)
section
variable {X : Cx} {o e e' : Expr} {f g h : Env → M D} {apos cpos : Pos}
theorem PostG.chkD {K : PySem.W.Frag} {mg : Str → Option Value} {m : List Addr} {H : Hp} {E : XK} {x : D} {S : Sto} {v : V} {P : Unit → Sto → List Addr → Hp → Prop} (h : PostG K mg m H (Z.chkD x S) P E) (rs : RS K m S H) (r : RD K m H x v) : (∃ a, v = .ref a ∧ IsD H a) ∧ P () S m H := by
  unfold Z.chkD at h
  split at h
  · rename_i n
    simp only [RD] at r
    obtain ⟨a, rfl, hm⟩ := r
    split at h
    · rename_i kvs eg
      obtain ⟨vs, h1, _⟩ := rs.obj hm eg
      exact ⟨⟨a, rfl, .inl ⟨vs, .inl h1⟩⟩, h m H (.refl _ _) rs⟩
    · rename_i kvs eg
      obtain ⟨ob, vs, h1, _⟩ := rs.obj hm eg
      exact ⟨⟨a, rfl, .inl ⟨vs, .inr ⟨ob, h1⟩⟩⟩, h m H (.refl _ _) rs⟩
    · exact h.elim
  · exact h.elim
theorem kvs_rel {K : PySem.W.Frag} {m : List Addr} {H : Hp} {S : Sto} {x : D} {a : Addr} {kvs : List (Key × D)} (rs : RS K m S H) (r : RD K m H x (.ref a)) (e : kvsAt x S = some kvs) : ∃ vs, Rd H a (.dK vs) ∧ RKs K m H kvs vs := by
  unfold kvsAt at e
  split at e
  · rename_i n
    simp only [RD] at r
    obtain ⟨a', ea, hm⟩ := r
    cases ea
    split at e
    · rename_i l eg
      cases e
      obtain ⟨vs, h1, h2⟩ := rs.obj hm eg
      exact ⟨vs, .inl h1, h2⟩
    · rename_i l eg
      cases e
      obtain ⟨ob, vs, h1, h2⟩ := rs.obj hm eg
      exact ⟨vs, .inr ⟨ob, h1⟩, h2⟩
    · cases e
  · cases e
theorem q_get1 {k : Nat} (hr : Rm k X.A) (ho : QE X o f) (he : QE X e g) (hm : M1 X o "get" apos e cpos := by exact ⟨rfl, rfl, rfl, rfl⟩) : QE X (.Call (.Attribute o "get" apos) [e] [] cpos) (eGet1 f g) := ⟨fun W tk m S σ σv H P rs re p => by
  have hu := hr.un
  refine wE.of (pe_dget1 (by omega) (pw o) (pw e) hm) ?_
  refine (ho.run W tk m S σ σv H _ rs re p.bnd).mono ?_
  rintro x H1 ⟨d1, S1, m1, rs1, r1, x1, q1⟩
  obtain ⟨⟨a, rfl, hd⟩, q2⟩ := q1.bnd.chkD rs1 r1
  refine ⟨a, rfl, hd, ?_⟩
  refine (he.run W tk m1 S1 σ σv H1 _ rs1 (re.mono x1) q2.bnd).mono ?_
  rintro y H2 ⟨d2, S2, m2, rs2, r2, x2, q3⟩
  obtain ⟨d, S', e', q⟩ := q3.up
  unfold fGet1 at e'
  split at e'
  · rename_i kvs kk ek ekk
    cases e'
    obtain ⟨vs, hR, hK⟩ := kvs_rel rs2 (RD.mono x2 _ _ r1) ek
    refine ⟨valV vs kk, .inl ⟨vs, kk, hR, keyOf_V r2 ekk, rfl⟩, ?_⟩
    rcases RKs.val (k := kk) hK with ⟨z1, z2⟩ | ⟨dd, v, z1, z2, z3⟩
    · rw [z2]; rw [z1] at q
      exact ⟨.non, _, m2, rs2, by simp only [RD, Option.getD_none], x1.trans x2, q m2 H2 (.refl _ _) rs2⟩
    · rw [z2]; rw [z1] at q
      exact ⟨dd, _, m2, rs2, z3, x1.trans x2, q m2 H2 (.refl _ _) rs2⟩
  · cases e'⟩
theorem q_get2 {k : Nat} (hr : Rm k X.A) (ho : QE X o f) (he : QE X e g) (he' : QE X e' h) (hm : M2 X o "get" apos e e' cpos := by exact ⟨rfl, rfl, rfl, rfl⟩) : QE X (.Call (.Attribute o "get" apos) [e, e'] [] cpos) (eGet2 f g h) := ⟨fun W tk m S σ σv H P rs re p => by
  have hu := hr.un
  refine wE.of (pe_dget2 (by omega) (pw o) (pw e) (pw e') hm) ?_
  refine (ho.run W tk m S σ σv H _ rs re p.bnd).mono ?_
  rintro x H1 ⟨d1, S1, m1, rs1, r1, x1, q1⟩
  obtain ⟨⟨a, rfl, hd⟩, q2⟩ := q1.bnd.chkD rs1 r1
  refine ⟨a, rfl, hd, ?_⟩
  refine (he.run W tk m1 S1 σ σv H1 _ rs1 (re.mono x1) q2.bnd).mono ?_
  rintro y H2 ⟨d2, S2, m2, rs2, r2, x2, q3⟩
  refine (he'.run W tk m2 S2 σ σv H2 _ rs2 ((re.mono x1).mono x2) q3.bnd).mono ?_
  rintro z H3 ⟨d3, S3, m3, rs3, r3, x3, q4⟩
  obtain ⟨d, S', e', q⟩ := q4.up
  unfold fGet2 at e'
  split at e'
  · rename_i kvs kk ek ekk
    cases e'
    obtain ⟨vs, hR, hK⟩ := kvs_rel rs3 (RD.mono x3 _ _ (RD.mono x2 _ _ r1)) ek
    refine ⟨valV vs kk, .inl ⟨vs, kk, hR, keyOf_V (RD.mono x3 _ _ r2) ekk, rfl⟩, ?_⟩
    rcases RKs.val (k := kk) hK with ⟨z1, z2⟩ | ⟨dd, v, z1, z2, z3⟩
    · rw [z2]; rw [z1] at q
      exact ⟨d3, _, m3, rs3, r3, (x1.trans x2).trans x3, q m3 H3 (.refl _ _) rs3⟩
    · rw [z2]; rw [z1] at q
      exact ⟨dd, _, m3, rs3, z3, (x1.trans x2).trans x3, q m3 H3 (.refl _ _) rs3⟩
  · cases e'⟩
end
end L2.Z

set_option Elab.async false
set_option linter.all false
set_option maxRecDepth 100000
set_option maxHeartbeats 4000000
/-! ZW: t[::-1]; max, min of three; range(a, b, -1). -/
namespace L2.Z
open PySem PySem.Spec PyProof.Rows
section
variable {prog : Program} {w : World} {A : Around} {E : Value → Shared → Prop} {s : Shared}
theorem places_rev (n : Nat) : Builtin.Slice.slicePlaces ((n : Int) - 1) (-1) (-1) = n := by
  unfold Builtin.Slice.slicePlaces
  have h1 : ¬ ((-1 : Int) > 0) := by omega
  simp only [h1, if_false, Int.neg_neg, Int.ediv_one]
  split <;> omega
theorem pick_rev (xs : Array Value) : ((List.range xs.size).filterMap fun (m : Nat) => xs[(((xs.size : Int) - 1) + (m : Int) * (-1)).toNat]?) = xs.toList.reverse := by
  have e : ((List.range xs.size).filterMap fun (m : Nat) => xs[(((xs.size : Int) - 1) + (m : Int) * (-1)).toNat]?) = ((List.range xs.size).map fun k => xs.size - 1 - k).filterMap (xs[·]?) := by
    have g : ∀ l : List Nat, (∀ m ∈ l, m < xs.size) → (l.filterMap fun (m : Nat) => xs[(((xs.size : Int) - 1) + (m : Int) * (-1)).toNat]?) = (l.map fun k => xs.size - 1 - k).filterMap (xs[·]?) := by
      intro l
      induction l with
      | nil => intro _; rfl
      | cons m l ih =>
        intro hm
        have h1 := hm m (by simp)
        have e1 : (((xs.size : Int) - 1) + (m : Int) * (-1)).toNat = xs.size - 1 - m := by omega
        rw [List.map_cons, List.filterMap_cons, List.filterMap_cons, e1, ih fun k hk => hm k (by simp [hk])]
    exact g _ fun m hm => List.mem_range.mp hm
  rw [e, PySem.W.krv_range, List.filterMap_reverse, PySem.W.krv_all]
theorem getItem_tuple_rev {t sl : Addr} {items : Array Value} {vs : Value} {Q : Value → Shared → Prop} (ht : IsTup s.heap t items) (hs : s.heap.IsSliceOf sl .none .none vs) (ps : IsPart vs (some (-1)))
    (h : Q (.ref s.heap.objs.size) { s with heap := s.heap.push { cls := .type "tuple", data := .seq items.toList.reverse.toArray } })
    (hsz : items.size ≤ sizeLine) : wpAny (model prog w) A (getItem (.ref t) (.ref sl)) Q E s := by
  have htake : sizeOk (.seq items.toList.reverse.toArray) := by
    show items.toList.reverse.toArray.size ≤ sizeLine
    rw [List.size_toArray, List.length_reverse, Array.length_toList]
    exact hsz
  obtain ⟨os, hos, hcs, hds⟩ := id hs
  have hTs : s.TypeIs (.ref sl) "slice" := ⟨os, hos, hcs⟩
  have ap : ∀ {A : Around} {R : Int × Int × Nat → Shared → Prop}, R ((items.size : Int) - 1, -1, items.size) s → wpAny (model prog w) A (Builtin.Slice.sliceApplied (.ref sl) (pure (items.size : Int))) R E s := by
    intro A R hR
    unfold Builtin.Slice.sliceApplied Builtin.Slice.sliceFields
    refine wpAny_bind (wpAny_bind (wpAny_field hos hds (x := .none) rfl (wpAny_bind (wpAny_field hos hds (x := .none) rfl (wpAny_bind (wpAny_field hos hds (x := vs) rfl (wpAny_pure ?_)))))))
    refine wpAny_bind (HT.slicePart_ ps ?_)
    show wpAny _ _ (if ((-1 : Int) == 0) = true then _ else _) _ _ s
    rw [if_neg (by decide)]
    refine wpAny_bind (HT.slicePart_ .none (wpAny_bind (HT.slicePart_ .none (wpAny_bind (wpAny_pure ?_)))))
    show wpAny _ _ (pure ((items.size : Int) - 1, (-1 : Int), Builtin.Slice.slicePlaces ((items.size : Int) - 1) (-1) (-1))) _ _ s
    rw [places_rev]
    exact wpAny_pure hR
  unfold getItem
  try with_reducible refine wpAny_holding ?_
  first | refine wpAny_bind (wpAny_pure ?_) | skip
  refine wpAny_bind (wpAny_sequenceKey ht.typeIs (by decide) ?_)
  refine wpAny_bind (wpAny_callSpecial?_slot (name := Str.ofString "__getitem__") ht.typeIs PyProof.Rows.slot_tuple_getitem
    (wpAny_call_entry PyProof.Rows.slot_tuple_getitem ht.typeIs entry_tuple_getitem ?_ (args_tuple_getitem _ _)))
  show wpAny _ _ (Builtin.Tuple.tupleItemsOf (.ref t) >>= _) _ _ s
  refine wpAny_bind (tupleItemsOf_ ht ?_)
  refine wpAny_bind (wpAny_typeOf hTs ?_)
  rw [if_pos (by decide)]
  refine wpAny_bind (ap ?_)
  have hno : ¬ ((((items.size : Int) - 1) == 0 && (-1 : Int) == 1 && items.size == items.size) = true) := by
    intro q
    rw [Bool.and_eq_true, Bool.and_eq_true] at q
    exact absurd q.1.2 (by decide)
  show wpAny _ _ (if (((items.size : Int) - 1) == 0 && (-1 : Int) == 1 && items.size == items.size) = true then _ else _) _ _ s
  rw [if_neg hno, pick_rev]
  first
    | exact wpAny_bind (m := Builtin.Tuple.tupleExact _) (wpAny_newObj_type (wpAny_pure ⟨_, rfl, wpAny_pure h⟩) htake)
    | exact wpAny_bind (m := Builtin.Tuple.tupleExact _) (wpAny_newObj_type (wpAny_bind (wpAny_pure (wpAny_pure ⟨_, rfl, wpAny_pure h⟩))) htake)
    | exact wpAny_bind (wpAny_bind (m := Builtin.Tuple.tupleExact _) (wpAny_newObj_type (wpAny_pure (wpAny_pure ⟨_, rfl, wpAny_pure h⟩)) htake))
    | exact wpAny_bind (wpAny_bind (m := Builtin.Tuple.tupleExact _) (wpAny_newObj_type (wpAny_pure ⟨_, rfl, wpAny_pure h⟩) htake))
end
@[irreducible] def fRevT : F1 := fun x S => match x with
  | .tup xs => some (.tup xs.reverse, S)
  | _ => none
@[irreducible] def fMax3 : FL := fun ds S => match ds with
  | [.int i, .int j, .int l] => some (.int (max (max i j) l), S)
  | _ => none
def dnL (i j : Int) : List D := (List.range (i - j).toNat).map fun k => D.int (i + (k : Nat) * (-1))
@[irreducible] def itRng3 (ds : List D) (S : Sto) : Option Itm := match ds with
  | [.int i, .int j, .int l] => if l = -1 ∧ -100000 ≤ i ∧ i ≤ 100000 ∧ -100000 ≤ j ∧ j ≤ 100000 then some (.fix (dnL i j)) else none
  | _ => none
def iRng3' (g : Env → M (List D)) : Env → M Itm := fun σ => bnd (g σ) fun ds => upI (itRng3 ds)
variable [HasT]
section
variable {X : Cx} {e : Expr} {f : Env → M D} {k : Nat} {p1 p2 p3 pos : Pos}
theorem pe_revT {te : TE} (he : PE X e te) : PE X (.Subscript e (.Slice none none (some (.UnaryOp .USub (.Constant (.int 1) k p1) p2)) p3) pos) (fun σ H Q => te σ H fun x H1 => ∃ a xs, x = .ref a ∧ SqT X.K H1 a xs ∧ ∀ p, H1 p = none → Q (.ref p) (upd H1 p (.tup xs.reverse))) := by
  refine ⟨fun pins s σ H Q I h => ?_⟩
  refine Subscript_ (thn (he.run pins s σ H _ I h) fun v s1 ⟨x, H1, I1, r1, q1⟩ => ?_)
  obtain ⟨a, xs, ex, hx, q⟩ := q1
  subst ex
  cases r1
  have hst : PO X (some (.UnaryOp .USub (.Constant (.int 1) k p1) p2)) (tPart (tUn (rU fun i => .int (-i)) (tC (.int 1)))) := po_some (pe_un un_neg pe_int)
  refine wpAny_Slice (thn (po_none.run pins s1 σ H1 (fun o H2 => o = none ∧ H2 = H1) I1 ⟨rfl, rfl⟩) fun vl s2 ⟨l, H2, I2, pl, el, e2⟩ => ?_)
  subst el e2
  refine thn (po_none.run pins s2 σ H2 (fun o H3 => o = none ∧ H3 = H2) I2 ⟨rfl, rfl⟩) fun vu s3 ⟨u, H3, I3, pu, eu, e3⟩ => ?_
  subst eu e3
  refine thn (hst.run pins s3 σ H3 (fun o H4 => o = some (-1) ∧ H4 = H3) I3 ⟨1, rfl, -1, rfl, rfl, rfl⟩) fun vs s4 ⟨o, H4, I4, ps, eo, e4⟩ => ?_
  subst eo e4
  have I5 : Inv X pins σ H4 { s4 with heap := s4.heap.push { cls := .type "slice", data := .fields #[vl, vu, vs] } } := I4.kept (t' := s4.toks) fun b ob q => Heap.get?_push_of_some _ q
  obtain ⟨its, r, ht, hz⟩ := I5.tuple hx
  have hlen := r.length
  cases pl
  cases pu
  show wpAny (model X.prog X.w) X.A (subscriptTail e (.Slice none none (some (.UnaryOp .USub (.Constant (.int 1) k p1) p2)) p3) (.ref a) (.ref s4.heap.objs.size)) (EP X pins σ Q) X.xe { s4 with heap := s4.heap.push { cls := .type "slice", data := .fields #[.none, .none, vs] } }
  refine tail_any (ops := [.ref a, .ref s4.heap.objs.size]) ht.typeIs (PyProof.Rows.slot_tuple_getitem.lookup) ?_ (by with_unfolding_all rfl)
  refine getItem_tuple_rev ht (Heap.IsSliceOf.new _ .none .none vs) ps ?_ (by rw [List.size_toArray]; omega)
  refine ⟨.ref _, _, I5.laid (t' := s4.toks) (o := .tup xs.reverse) (fun b ob q => Heap.get?_push_of_some _ q) (Nat.le_refl _) ?_, rfl, q _ (I5.hok.fresh (Nat.le_refl _))⟩
  exact ⟨by rw [List.length_reverse]; exact hz, _, r.reverse, IsTup.new _ _⟩
theorem q_revT (ha : QE X e f) : QE X (.Subscript e (.Slice none none (some (.UnaryOp .USub (.Constant (.int 1) k p1) p2)) p3) pos) (e1 fRevT f) := ⟨fun W tk m S σ σv H P rs re q => by
  refine wE.of (pe_revT (pw e)) ?_
  refine (one ha tk rs re q).mono fun x H1 q1 => ?_
  obtain ⟨m, S, d1, d, S', rs, r1, e, fin⟩ := q1
  unfold fRevT at e
  split at e
  · cases e
    simp only [RD] at r1
    obtain ⟨a, vs, rfl, h1, h2⟩ := r1
    exact ⟨a, vs, rfl, h1, fun p hp => fin m _ _ (.new hp) (rs.new hp) (RD.newTup hp h2.rev)⟩
  · cases e⟩
theorem c_max3 (hc : X.calm = true) : CallR X (.builtin "max") (rFL X.K fMax3) := by
  intro pins s σ H xs us Q I r h
  obtain ⟨m, S, ds, d, S', rs, rr, e, fin⟩ := h
  unfold fMax3 at e
  split at e
  · rename_i i j l
    cases e
    simp only [RDs, RD] at rr
    obtain ⟨v, r1, rfl, rfl, v1, r2, rfl, rfl, v2, r3, rfl, rfl, rfl⟩ := rr
    refine call_max3Nu hc pins s σ H _ us Q I r ⟨_, _, _, .int (max (max i j) l), rfl, ?_, fin m H _ (.refl _ _) rs (by simp only [RD])⟩
    have k2 : ∀ a b : Int, nuMax2 (.int a) (.int b) = some (.int (max a b)) := fun a b => by
      unfold nuMax2 nuLt
      simp only [nuCB, Option.map_some]
      by_cases h1 : a < b
      · rw [decide_eq_true h1, if_pos rfl]; congr 2; omega
      · rw [decide_eq_false h1, if_neg (by simp)]; congr 2; omega
    unfold nuMax3
    rw [k2, Option.bind_some, k2]
  · cases e
theorem dn_get (i j : Int) (q : Nat) : (dnL i j)[q]? = if q < (i - j).toNat then some (.int (i + (q : Nat) * (-1))) else none := by
  unfold dnL
  rw [List.getElem?_map]
  by_cases h : q < (i - j).toNat
  · rw [List.getElem?_range h, if_pos h]; rfl
  · rw [List.getElem?_eq_none (by rw [List.length_range]; omega), if_neg h]; rfl
theorem jit_dn {K : PySem.W.Frag} {m : List Addr} {H : Hp} {i j : Int} : JIt K (Itc i (-1) (i - j).toNat) (.fix (dnL i j)) m H where
  stop := fun m S H q _ _ e => by
    simp only [nxt, Option.some.injEq] at e
    rw [dn_get] at e
    show (i - j).toNat ≤ q
    split at e
    · cases e
    · omega
  go := fun m S H q d x rs e => by
    simp only [nxt, Option.some.injEq] at e
    rw [dn_get] at e
    split at e
    · rename_i hq
      cases e
      refine ⟨hq, fun y H' hy => ?_⟩
      obtain ⟨rfl, rfl⟩ := hy
      exact ⟨rs, .refl _ _, by simp only [RD]⟩
    · cases e
theorem qi_rng3 {tg a b c : Expr} {g : Env → M (List D)} {p : Pos} (hm : X.mg "range" = none) (ha : QA X [a, b, c] g) (hg : glB X.env.scope "range" = true := by kernel_rfl) (hs : PySem.W.isStarred a = false := by rfl) (hs2 : [b, c].any PySem.W.isStarred = false := by rfl) :
    QI X tg (.Call (.Name "range" p) [a, b, c] [] pos) (iRng3' g) := ⟨fun W tk m S σ σv H P rs re q => by
  refine wI.of (pi_range3 (glB_ok hg).1 hm (paw [a, b, c]) (star1 hs) (star2 hs2)) ?_
  intro pos' pins' s' I'
  refine thn (ha.run W tk m S σ σv H _ rs re q.bnd pos' pins' s' I') ?_
  rintro us s2 ⟨vs, H2, I2, rv, ds, S2, m2, rs2, r2, x2, q2⟩
  obtain ⟨it, e1, q3⟩ := q2.upI rs2
  refine ⟨vs, H2, I2, rv, ?_⟩
  unfold itRng3 at e1
  split at e1
  · rename_i i j l
    split at e1
    · rename_i hb
      cases e1
      simp only [RDs, RD] at r2
      obtain ⟨v, r, rfl, rfl, v', r', rfl, rfl, v3, r3, rfl, rfl, rfl⟩ := r2
      obtain ⟨rfl, b1, b2, b3, b4⟩ := hb
      exact ⟨_, _, _, _, rfl, RgC.neg (by omega) (by omega) (by omega) (by omega), _, S2, m2, rs2, jit_dn, x2, q3⟩
    · cases e1
  · cases e1⟩
end
end L2.Z

set_option Elab.async false
set_option linter.all false
set_option maxRecDepth 100000
set_option maxHeartbeats 4000000
/-! ZU: what is written at the module's top: tuples of texts and numbers, dicts with texts for keys and numbers for values. -/
namespace L2.Z
open PySem PySem.Spec PyProof.Rows
def litV : D → Value → Bool
  | .int i, .int j _ => decide (i = j)
  | .str x, .str y _ => decide (x = y)
  | .bl b, .bool c => decide (b = c)
  | .non, .none => true
  | _, _ => false
def litAll : List D → List Value → Bool
  | [], [] => true
  | d :: ds, v :: vs => litV d v && litAll ds vs
  | _, _ => false
def tupB (K : PySem.W.Frag) (a : Addr) (ds : List D) : Bool := match K.lookup a with
  | some ⟨.type c, none, .seq its _, _⟩ => decide (c = "tuple") && (litAll ds its.toList && Nat.ble ds.length 1000)
  | _ => false
def kvLit : List (Str × Int) → List DictEntry → Bool
  | [], [] => true
  | (x, i) :: r, e :: es => (match e.key, e.val with
    | .str y _, .int j _ => decide (x = y) && decide (i = j)
    | _, _ => false) && kvLit r es
  | _, _ => false
def kdB (K : PySem.W.Frag) (a : Addr) (kvs : List (Str × Int)) : Bool := match K.lookup a with
  | some ⟨_, _, .dict es _, _⟩ => kvLit kvs es.toList
  | _ => false
def getS (kvs : List (Str × Int)) (z : Str) : D := match kvs.find? fun p => p.1 == z with
  | some p => .int p.2
  | none => .non
@[irreducible] def fKGet (kvs : List (Str × Int)) : F1 := fun x S => match x with
  | .str z => some (getS kvs z, S)
  | _ => none
variable [HasT]
theorem lit_rel {K : PySem.W.Frag} {m : List Addr} {H : Hp} {d : D} {u : Value} (h : litV d u = true) : ∃ v, RelV v u ∧ RD K m H d v := by
  unfold litV at h
  split at h
  · simp only [decide_eq_true_eq] at h; subst h; exact ⟨.int _, ⟨_, rfl⟩, by simp only [RD]⟩
  · simp only [decide_eq_true_eq] at h; subst h; exact ⟨.str _, ⟨_, rfl⟩, by simp only [RD]⟩
  · simp only [decide_eq_true_eq] at h; subst h; exact ⟨.bl _, rfl, by simp only [RD]⟩
  · exact ⟨.non, rfl, by simp only [RD]⟩
  · cases h
theorem litAll_rel {K : PySem.W.Frag} : ∀ {ds : List D} {us : List Value}, litAll ds us = true → ds.length = us.length ∧ ∃ vs, Vals vs us ∧ ∀ (m : List Addr) (H : Hp), RDs K m H ds vs
  | [], [], _ => ⟨rfl, [], .nil, fun m H => by simp only [RDs]⟩
  | [], _ :: _, h => by cases h
  | _ :: _, [], h => by cases h
  | d :: ds, u :: us, h => by
    simp only [litAll, Bool.and_eq_true] at h
    obtain ⟨hl, vs, h1, h2⟩ := litAll_rel (K := K) h.2
    have key : ∃ v, RelV v u ∧ ∀ (m : List Addr) (H : Hp), RD K m H d v := by
      have h0 := h.1
      unfold litV at h0
      split at h0
      · simp only [decide_eq_true_eq] at h0; subst h0; exact ⟨.int _, ⟨_, rfl⟩, fun _ _ => by simp only [RD]⟩
      · simp only [decide_eq_true_eq] at h0; subst h0; exact ⟨.str _, ⟨_, rfl⟩, fun _ _ => by simp only [RD]⟩
      · simp only [decide_eq_true_eq] at h0; subst h0; exact ⟨.bl _, rfl, fun _ _ => by simp only [RD]⟩
      · exact ⟨.non, rfl, fun _ _ => by simp only [RD]⟩
      · cases h0
    obtain ⟨v, r, rd⟩ := key
    exact ⟨by simp [hl], v :: vs, .cons r h1, fun m H => by simp only [RDs]; exact ⟨v, vs, rfl, rd m H, h2 m H⟩⟩
section
variable {X : Cx} {x : Str} {a : Addr} {ds : List D} {pos p apos cpos : Pos} {e : Expr} {f : Env → M D}
theorem q_gtup (hm : X.mg x = some (.ref a)) (T : tupB X.K a ds = true) (hg : glB X.env.scope x = true := by kernel_rfl) : QE X (.Name x pos) (eC (.tup ds)) := by
  unfold tupB at T
  split at T
  · rename_i c its n sl hl
    simp only [Bool.and_eq_true, decide_eq_true_eq] at T
    obtain ⟨rfl, h1, h2⟩ := T
    obtain ⟨hlen, vs, rv, rd⟩ := litAll_rel (K := X.K) h1
    have hz := Nat.le_of_ble_eq_true h2
    refine qe_val (pe_glob (v := .ref a) (glB_ok hg).1 hm rfl (glB_ok hg).2.1) fun m H => ?_
    simp only [RD]
    refine ⟨a, vs, rfl, .inr ⟨_, its, n, hl, rfl, rfl, ?_, rv⟩, rd m H⟩
    rw [← Array.length_toList, ← hlen, sizeLine_eq]
    omega
  · cases T
structure KDI (K : PySem.W.Frag) (w : World) (a : Addr) (kvs : List (Str × Int)) : Prop where
  d : ∃ es n, KDict K w a es n
  b : kdB K a kvs = true
theorem kv_find {z : Str} : ∀ {kvs : List (Str × Int)} {es : List DictEntry}, kvLit kvs es = true → ∃ v : V, RelV v (((es.find? fun e => Value.isStrOf z e.key).map (·.val)).getD .none) ∧ ∀ (K : PySem.W.Frag) (m : List Addr) (H : Hp), RD K m H (getS kvs z) v
  | [], [], _ => ⟨.non, rfl, fun _ _ _ => by simp only [getS, List.find?_nil, RD]⟩
  | [], _ :: _, h => by cases h
  | _ :: _, [], h => by cases h
  | (x, i) :: r, e :: es, h => by
    simp only [kvLit, Bool.and_eq_true] at h
    obtain ⟨h1, h2⟩ := h
    obtain ⟨v, q1, q2⟩ := kv_find (z := z) h2
    split at h1
    · rename_i y t j u ek ev
      simp only [Bool.and_eq_true, decide_eq_true_eq] at h1
      obtain ⟨rfl, rfl⟩ := h1
      by_cases hz : x = z
      · subst hz
        refine ⟨.int i, ?_, fun K m H => ?_⟩
        · rw [List.find?_cons_of_pos (by rw [ek]; simp [Value.isStrOf])]
          simp only [Option.map_some, Option.getD_some, ev]
          exact ⟨u, rfl⟩
        · unfold getS
          rw [List.find?_cons_of_pos (by simp)]
          simp only [RD]
      · refine ⟨v, ?_, fun K m H => ?_⟩
        · rw [List.find?_cons_of_neg (by rw [ek]; simp [Value.isStrOf, hz])]
          exact q1
        · have := q2 K m H
          unfold getS at this ⊢
          rw [List.find?_cons_of_neg (by simp [hz])]
          exact this
    · cases h1
theorem q_kget {kvs : List (Str × Int)} (hm : X.mg x = some (.ref a)) (T : KDI X.K X.w a kvs) (he : QE X e f) (hg : glB X.env.scope x = true := by kernel_rfl) (m1 : M1 X (.Name x p) "get" apos e cpos := by exact ⟨rfl, rfl, rfl, rfl⟩) :
    QE X (.Call (.Attribute (.Name x p) "get" apos) [e] [] cpos) (e1 (fKGet kvs) f) := ⟨fun W tk m S σ σv H P rs re q pins s I => by
  obtain ⟨es, n, D⟩ := T.d
  have hb := T.b
  unfold kdB at hb
  rw [D.at_] at hb
  refine wpAny_Call_method m1.base m1.few m1.line PySem.F.plainAttrs_dict PySem.F.slot_dict_get PySem.F.type_dict_get (ld_glob I (glB_ok hg).1 hm ?_ (glB_ok hg).2.1)
  have hm0 := PySem.W.mapOf_K (prog := X.prog) (w := X.w) I.kIn D.at_ D.lit
  refine ⟨hm0.typeIs, fun b eb => ?_, ?_⟩
  · cases eb
    exact ⟨_, I.kIn _ _ D.at_, rfl⟩
  rw [m1.trees]
  refine Calls.callWith_builtin rfl (Calls.evalArgs_plain (Calls.spliced_cons (thn ((one he tk rs re q) pins s I) fun iv s2 ⟨y, H2, I2, ry, q2⟩ => Calls.spliced_nil ?_)))
  obtain ⟨m2, S2, d1, d, S', rs2, r1, e1', fin⟩ := q2
  unfold fKGet at e1'
  split at e1'
  · rename_i z
    cases e1'
    simp only [RD] at r1
    subst r1
    obtain ⟨t, rfl⟩ := ry
    have hm2 := PySem.W.mapOf_K (prog := X.prog) (w := X.w) I2.kIn D.at_ D.lit
    obtain ⟨v, g1, g2⟩ := kv_find (z := z) hb
    refine call_meetsIn PySem.F.slot_dict_get hm2.typeIs PySem.F.entry_dict_get (PySem.F.args_dict_get_2 _ _) (meets_dict_get (strKind X.prog X.w) a (strKind_is X.prog X.w z t) D.low) ⟨_, hm2, ?_⟩
    refine ⟨v, H2, I2.tok _, ?_, fin m2 H2 _ (.refl _ _) rs2 (g2 _ _ _)⟩
    have ef : findBy Value.isStrOf es z = (es.toList.find? fun e => Value.isStrOf z e.key).map (·.val) := by
      unfold findBy
      obtain ⟨l⟩ := es
      simp
    rw [ef]
    exact g1
  · cases e1'⟩
end
end L2.Z

set_option Elab.async false
set_option linter.all false
set_option maxRecDepth 100000
set_option maxHeartbeats 4000000
/-! ZO: x == (), x != () where x may hold empty dicts. -/
namespace PySem.SeqAt
open MeetsSeq
theorem tuple_ne_declines_dict (l b : Addr) (items : Array Value) (es : Array DictEntry) (n n2 : Nat) (dd dd2 : Option Addr) (sl sl2 : Array (Option Value)) :
    Meets (Builtin.«tuple.__ne__» ⟨[.ref l, .ref b], []⟩) (fun _ R s => s.heap.get? l = some { cls := .type "tuple", dict := dd, data := .seq items n, slots := sl } ∧ s.heap.get? b = some { cls := .type "dict", dict := dd2, data := .dict es n2, slots := sl2 } ∧ R (.ok (.ret .notImplemented)) s) :=
  .of_wp fun prog w A R s h => by obtain ⟨hp, g, d, tk, os⟩ := s; obtain ⟨hl, hb, h⟩ := h; have f1 := F.sub_dict_tuple; wp_walk using wpAny_loadPart' hl, wpAny_loadPart' hb; exact ⟨_, rfl, h⟩
theorem dict_ne_declines_tuple (l b : Addr) (items : Array Value) (es : Array DictEntry) (n n2 : Nat) (dd dd2 : Option Addr) (sl sl2 : Array (Option Value)) :
    Meets (Builtin.«dict.__ne__» ⟨[.ref l, .ref b], []⟩) (fun _ R s => s.heap.get? l = some { cls := .type "dict", dict := dd, data := .dict es n, slots := sl } ∧ s.heap.get? b = some { cls := .type "tuple", dict := dd2, data := .seq items n2, slots := sl2 } ∧ R (.ok (.ret .notImplemented)) s) :=
  .of_wp fun prog w A R s h => by obtain ⟨hp, g, d, tk, os⟩ := s; obtain ⟨hl, hb, h⟩ := h; have f1 := F.sub_tuple_dict; wp_walk using wpAny_loadPart' hl, wpAny_loadPart' hb; exact ⟨_, rfl, h⟩
end PySem.SeqAt
namespace PySem.SeqAt
open MeetsSeq
theorem rcNe_dict_tuple {A : Around} {s : Shared} {l b : Addr} {o : Obj} {es : Array DictEntry} {n : Nat} {items : Array Value} (ho : s.heap.get? l = some o) (hx : o.ExactDict) (hd : o.data = .dict es n) (hb : s.heap.IsTuple b items) (hu : A.units < cLine) : RcNeAt A s (.ref l) (.ref b) true := fun prog w E Q h => by
  obtain ⟨⟨cls2, dd2, data2, sl2⟩, ho2, hc2, n2, hd2⟩ := id hb
  obtain ⟨cls, dd, data, sl⟩ := o
  obtain ⟨c1, c2, c3⟩ := hx
  simp only at c1 c2 c3 hd hc2 hd2
  subst c1 c2 c3 hd hc2 hd2
  have hne : l ≠ b := fun z => by
    rw [z, ho2] at ho
    have z2 := congrArg Obj.cls (Option.some.inj ho)
    exact absurd (Value.type.inj z2) (by decide)
  exact (rc_ne_decline_or (k := false) ⟨_, ho, rfl⟩ ⟨_, ho2, rfl⟩ (by decide) F.sub_tuple_dict F.slot_dict_ne F.slot_tuple_ne_refl
    (fun _ hq => call_meets F.slot_dict_ne ⟨_, ho, rfl⟩ F.entry_dict_ne (F.args_dict_ne_2 _ _) (dict_ne_declines_tuple l b items es n n2 _ dd2 _ sl2) ⟨ho, ho2, hq⟩)
    (fun _ hq => call_meets F.slot_tuple_ne_refl ⟨_, ho2, rfl⟩ F.entry_tuple_ne (F.args_tuple_ne_2 _ _) (tuple_ne_declines_dict b l items es n2 n dd2 _ sl2 _) ⟨ho2, ho, hq⟩)
    (fun _ hq => wpAny_isSame_ref_other hne ho ho2 (by simp) hq) (.inr hu) h)
end PySem.SeqAt
namespace L2.Z
open PySem PySem.Spec PyProof.Rows
/-- whether x is (), x any data -/
def isU (S : Sto) (x : D) : Option Bool := match toPD 40 S x with
  | some p => some (PyData.eqv p (.tuple []))
  | none => match x with
    | .tup xs => some xs.isEmpty
    | _ => none
def isNU (S : Sto) (x : D) : Option Bool := match isU S x with
  | some b => some (!b)
  | none => match x with
    | .loc n => match S.get n with
      | some (.dK _) => some true
      | _ => none
    | _ => none
@[irreducible] def fEqU : F2 := fun x y S => match y with
  | .tup [] => (isU S x).map fun b => (.bl b, S)
  | _ => none
@[irreducible] def fNeU : F2 := fun x y S => match y with
  | .tup [] => (isNU S x).map fun b => (.bl b, S)
  | _ => none
theorem b_eqU : BoolF fEqU := fun x y S d S' e => by
  unfold fEqU at e
  split at e
  · cases q : isU S x with
    | none => rw [q] at e; cases e
    | some b => rw [q] at e; cases e; exact ⟨b, rfl⟩
  · cases e
theorem b_neU : BoolF fNeU := fun x y S d S' e => by
  unfold fNeU at e
  split at e
  · cases q : isNU S x with
    | none => rw [q] at e; cases e
    | some b => rw [q] at e; cases e; exact ⟨b, rfl⟩
  · cases e
theorem pd_emp (S : Sto) : toPD 40 S (.tup []) = some (.tuple []) := rfl
variable [HasT]
section
variable {X : Cx}
theorem r_eqU {k : Nat} (hr : Rm k X.A) : OpR X (compareOp .Eq) (rF2 X.K fEqU) := by
  intro pins s σ H x y v u Q I rx ry h
  obtain ⟨m, S, d1, d2, d, S', rs, r1, r2, e, fin⟩ := h
  unfold fEqU at e
  split at e
  · unfold isU at e
    split at e
    · rename_i p ep
      cases e
      exact r_eq hr pins s σ H x y v u Q I rx ry ⟨m, _, d1, .tup [], _, _, rs, r1, r2, by simp only [fEq, fPD, ep, pd_emp], fin⟩
    · split at e
      · rename_i xs _
        cases e
        simp only [RD, RDs] at r1 r2
        obtain ⟨a, vs, rfl, h1, h2⟩ := r1
        obtain ⟨b, ws, rfl, g1, rfl⟩ := r2
        obtain rfl : v = Value.ref a := rx
        obtain rfl : u = Value.ref b := ry
        obtain ⟨its, rv, ht, _⟩ := I.tuple h1
        obtain ⟨its2, rv2, ht2, _⟩ := I.tuple g1
        have l1 := rv.length
        have l2 := rv2.length
        have l3 := h2.length
        have hu := hr.un
        refine (SeqAt.RcAt.tuples (e := fun _ => true) ht ht2 (by omega) (fun j j1 j2 => ?_)) X.prog X.w _ _ ?_
        · rw [List.size_toArray, ← l2] at j2; cases j2
        · have eb : ((List.range (min its.toArray.size its2.toArray.size)).all (fun _ => true) && its.toArray.size == its2.toArray.size) = xs.isEmpty := by
            rw [List.size_toArray, List.size_toArray, ← l1, ← l2, ← l3]
            cases xs <;> simp
          rw [eb]
          exact ⟨.bl xs.isEmpty, H, I, rfl, fin m H _ (.refl _ _) rs (by simp only [RD])⟩
      · cases e
  · cases e
theorem r_neU {k : Nat} (hr : Rm k X.A) : OpR X (compareOp .NotEq) (rF2 X.K fNeU) := by
  intro pins s σ H x y v u Q I rx ry h
  obtain ⟨m, S, d1, d2, d, S', rs, r1, r2, e, fin⟩ := h
  have hu := hr.un
  unfold fNeU at e
  split at e
  · unfold isNU at e
    cases q : isU S d1 with
    | some b =>
      rw [q] at e
      cases e
      unfold isU at q
      split at q
      · rename_i p ep
        cases q
        exact r_ne hr pins s σ H x y v u Q I rx ry ⟨m, _, d1, .tup [], _, _, rs, r1, r2, by simp only [fNe, fPD, ep, pd_emp], fin⟩
      · split at q
        · rename_i xs _
          cases q
          simp only [RD, RDs] at r1 r2
          obtain ⟨a, vs, rfl, h1, h2⟩ := r1
          obtain ⟨b, ws, rfl, g1, rfl⟩ := r2
          obtain rfl : v = Value.ref a := rx
          obtain rfl : u = Value.ref b := ry
          obtain ⟨its, rv, ht, _⟩ := I.tuple h1
          obtain ⟨its2, rv2, ht2, _⟩ := I.tuple g1
          have l1 := rv.length
          have l2 := rv2.length
          have l3 := h2.length
          refine (SeqAt.RcNeAt.tuples (e := fun _ => true) ht ht2 (by omega) (fun j j1 j2 => ?_)) X.prog X.w _ _ ?_
          · rw [List.size_toArray, ← l2] at j2; cases j2
          · have eb : (!((List.range (min its.toArray.size its2.toArray.size)).all (fun _ => true) && its.toArray.size == its2.toArray.size)) = !xs.isEmpty := by
              rw [List.size_toArray, List.size_toArray, ← l1, ← l2, ← l3]
              cases xs <;> simp
            rw [eb]
            exact ⟨.bl (!xs.isEmpty), H, I, rfl, fin m H _ (.refl _ _) rs (by simp only [RD])⟩
        · cases q
    | none =>
      rw [q] at e
      simp only at e
      split at e
      · rename_i n
        split at e
        · rename_i kvs eg
          cases e
          simp only [RD, RDs] at r1 r2
          obtain ⟨a, rfl, hm⟩ := r1
          obtain ⟨b, ws, rfl, g1, rfl⟩ := r2
          obtain rfl : v = Value.ref a := rx
          obtain rfl : u = Value.ref b := ry
          obtain ⟨vs, h1, h2⟩ := rs.obj hm eg
          obtain ⟨_, _, kv, _, o, es, ep, q1, q2, q3, _⟩ := (show ObjOk X.prog X.w H s.heap a (.dK vs) from I.hok a _ h1)
          obtain ⟨its2, rv2, ht2, _⟩ := I.tuple g1
          exact SeqAt.rcNe_dict_tuple q1 q2 q3 ht2 (by omega) X.prog X.w _ _ ⟨.bl true, H, I, rfl, fin m H _ (.refl _ _) rs (by simp only [RD])⟩
        · cases e
      · cases e
  · cases e
end
end L2.Z

set_option Elab.async false
set_option linter.all false
set_option maxRecDepth 100000
set_option maxHeartbeats 4000000
/-! ZN: tuple * 1 (the same tuple), beside tuple * int. -/
namespace L2.Z
open PySem PySem.Spec PyProof.Rows
theorem tuple_mul1W (l : Addr) (items : Array Value) (n : Nat) (dd : Option Addr) (sl : Array (Option Value)) (u : Tok) :
    Meets (Builtin.«tuple.__mul__» ⟨[.ref l, .int 1 u], []⟩) (fun _ R s => s.heap.get? l = some { cls := .type "tuple", dict := dd, data := .seq items n, slots := sl } ∧
      R (.ok (.ret (Value.ref l))) s) :=
  .of_wp fun prog w A R s h => by
    obtain ⟨hp, g, d, tk, os⟩ := s
    obtain ⟨hl, h⟩ := h
    have f1 := AutoSeq1.idx_int
    have c1 : (items.isEmpty || (1 : Int) == 1) = true := by simp
    wp_walk using wpAny_loadPart' hl
    repeat (first
      | (refine wpAny_ite_false (decide_eq_false (by decide)) ?_; wp_walk using wpAny_loadPart' hl)
      | (refine wpAny_ite_true (decide_eq_true (by rw [c1])) ?_; wp_walk using wpAny_loadPart' hl))
    exact ⟨_, rfl, h⟩
def rRep1 (K : PySem.W.Frag) : R2 := fun x y H Q => ∃ l xs, x = .ref l ∧ y = .int 1 ∧ SqT K H l xs ∧ Q (.ref l) H
section
variable {X : Cx}
theorem op_rep1 : OpR X (binaryOp .Mult) (rRep1 X.K) := by
  intro pins s σ H x y v u Q I rx ry h
  obtain ⟨l, xs, rfl, rfl, hT, q⟩ := h
  cases rx
  obtain ⟨t, rfl⟩ := ry
  obtain ⟨its, r, ⟨⟨cls, dd, data, sl⟩, ho, hc, n, hd⟩, hs⟩ := I.tuple hT
  simp only at hc hd
  subst hc hd
  refine wpAny_binaryOp_repeat_ref (T := "tuple") (U := "int") (by decide) ⟨_, ho, rfl⟩ (fun s' => typeIs_int s' 1 t) noFill_tuple_mul F.fills_int_mul F.slot_int_rmul repeat_tuple F.slot_int_index.lookup
    (call_meets F.slot_int_rmul (typeIs_int s 1 t) F.entry_int_rmul (F.args_int_rmul_2 _ _) (int_rmul_tuple 1 t l its.toArray n dd sl)
      ⟨ho, rfl, ⟨_, ho, rfl⟩, call_meets F.slot_tuple_mul ⟨_, ho, rfl⟩ F.entry_tuple_mul (F.args_tuple_mul_2 _ _) (tuple_mul1W l its.toArray n dd sl t) ⟨ho, ?_⟩⟩)
  exact ⟨.ref l, _, I, rfl, q⟩
end
@[irreducible] def fMulT : F2 := fun x y S => match x, y with
  | .tup xs, .int k => if k = 1 then some (.tup xs, S) else fMul (.tup xs) (.int k) S
  | _, _ => none
section
variable [HasT] {X : Cx}
theorem r_mulT : OpR X (binaryOp .Mult) (rF2 X.K fMulT) := by
  intro pins s σ H x y v u Q I rx ry q
  obtain ⟨m, S, d1, d2, d, S', rs, r1, r2, e, fin⟩ := q
  unfold fMulT at e
  split at e
  · rename_i xs k
    split at e
    · rename_i hk
      subst hk
      cases e
      have r1' := r1
      simp only [RD] at r1 r2
      obtain ⟨a', vs, rfl, hq, t1⟩ := r1
      exact op_rep1 pins s σ H _ _ v u Q I rx ry ⟨a', vs, rfl, r2, hq, fin m H _ (.refl _ _) rs r1'⟩
    · exact r_mul pins s σ H x y v u Q I rx ry ⟨m, S, _, _, d, S', rs, r1, r2, e, fin⟩
  · cases e
end
end L2.Z

set_option Elab.async false
set_option linter.all false
set_option maxRecDepth 100000
set_option maxHeartbeats 4000000
/-! ZG: the law's call from a promise that holds where no repr is under way. -/
namespace L2.Z
open PySem PySem.Spec PyProof.Rows LamX
section
variable {P : Program} {w : World} {K : PySem.W.Frag} {mg mb : Str → Option Value} {a : Addr} {cs : List (Addr × Addr)} {h : Heap} {vs : List Value} {ns : List Int}
/-- what is tracked at the start: the tables, and the script's list if K does not know it -/
structure StartH (K : PySem.W.Frag) (cs : List (Addr × Addr)) (a : Addr) (ns : List Int) (h : Heap) (H : Hp) : Prop where
  tabs : ∀ p ∈ cs, H p.2 = some (.tbl #[])
  scr : SqL K H a (ns.map V.int)
  free : ∀ b, K.lookup b ≠ none → H b = none
  only : ∀ b o, H b = some o → h.get? b = some { cls := .none, data := .fields #[] } ∧ o = .tbl #[] ∧ b ∈ cs.map (·.2) ∨ ∃ xs its, o = .frz { cls := .type "list", data := .seq its } (.lst xs) ∧ h.get? b = some { cls := .type "list", data := .seq its }
theorem start_at (ha : h.get? a = some { cls := .type "list", data := .seq vs.toArray }) (hi : IntsAre vs ns) (hl : ns.length ≤ sizeLine) (KX : K.In h)
    (hT : ∀ p ∈ cs, h.get? p.2 = some { cls := .none, data := .fields #[] }) (nT : ∀ p ∈ cs, K.lookup p.2 = none) : ∃ H : Hp, StartH K cs a ns h H ∧ HOk P w H h := by
  have rv := vals_ints hi
  have lv := hi.length
  have isT : ∀ b, b ∈ cs.map (·.2) → h.get? b = some { cls := .none, data := .fields #[] } ∧ K.lookup b = none := fun b hb => by
    obtain ⟨p, hp, rfl⟩ := List.mem_map.mp hb
    exact ⟨hT p hp, nT p hp⟩
  have aT : a ∉ cs.map (·.2) := fun z => by
    have q := (isT a z).1
    rw [ha] at q
    exact absurd (congrArg Obj.data (Option.some.inj q)) (by intro z; cases z)
  let T : Hp := fun b => if b ∈ cs.map (·.2) then some (.tbl #[]) else none
  have tT : ∀ p ∈ cs, T p.2 = some (.tbl #[]) := fun p hp => if_pos (List.mem_map.mpr ⟨p, hp, rfl⟩)
  have oT : ∀ b o, T b = some o → o = .tbl #[] ∧ b ∈ cs.map (·.2) := fun b o e => by
    by_cases hb : b ∈ cs.map (·.2)
    · have e' : some (HO.tbl #[]) = some o := (if_pos hb).symm.trans e
      cases e'
      exact ⟨rfl, hb⟩
    · have e' : (none : Option HO) = some o := (if_neg hb).symm.trans e
      cases e'
  by_cases hk : K.lookup a = none
  · let u : HO := .frz { cls := .type "list", data := .seq vs.toArray } (.lst (ns.map V.int))
    refine ⟨fun b => if b = a then some u else T b, ⟨fun p hp => ?_, .inl (.inr ⟨_, if_pos rfl⟩), fun b nb => ?_, fun b o e => ?_⟩, fun b o e => ?_⟩
    · have : p.2 ≠ a := fun z => aT (z ▸ List.mem_map.mpr ⟨p, hp, rfl⟩)
      exact (if_neg this).trans (tT p hp)
    · have : b ≠ a := fun z => nb (z ▸ hk)
      refine (if_neg this).trans ?_
      cases q : T b with
      | none => rfl
      | some o => exact absurd (isT b (oT b o q).2).2 nb
    · by_cases hb : b = a
      · subst hb
        have e' : some u = some o := (if_pos rfl).symm.trans e
        cases e'
        exact .inr ⟨_, _, rfl, ha⟩
      · have z := oT b o ((if_neg hb).symm.trans e)
        exact .inl ⟨(isT b z.2).1, z.1, z.2⟩
    · by_cases hb : b = a
      · subst hb
        have e' : some u = some o := (if_pos rfl).symm.trans e
        cases e'
        exact ⟨ha, by rw [List.length_map]; exact hl, vs, _, rv, ha⟩
      · obtain ⟨rfl, z⟩ := oT b o ((if_neg hb).symm.trans e)
        exact (isT b z).1
  · refine ⟨T, ⟨tT, ?_, fun b nb => ?_, fun b o e => .inl ⟨(isT b (oT b o e).2).1, (oT b o e).1, (oT b o e).2⟩⟩, fun b o e => ?_⟩
    · cases q : K.lookup a with
      | none => exact absurd q hk
      | some ob =>
        have e := KX a ob q
        rw [ha] at e
        cases e
        exact .inr ⟨_, vs.toArray, _, q, rfl, rfl, rfl, by rw [List.size_toArray, lv]; exact hl, by simpa using rv⟩
    · cases q : T b with
      | none => rfl
      | some o => exact absurd (isT b (oT b o q).2).2 nb
    · obtain ⟨rfl, z⟩ := oT b o e
      exact (isT b z).1
theorem StartH.none {H : Hp} (S : StartH K cs a ns h H) {b : Addr} {o : Obj} (e : h.get? b = some o) (h1 : ∀ its n, o.data ≠ .seq its n) (h2 : o.data ≠ .fields #[]) : H b = none := by
  cases q : H b with
  | none => rfl
  | some u =>
    rcases S.only b u q with ⟨z, _⟩ | ⟨_, its, _, z⟩
    · rw [e] at z; cases z; exact absurd rfl h2
    · rw [e] at z; cases z; exact absurd rfl (h1 _ _)
theorem law_callG {fa : Addr} {fd : FuncData} {k : Nat} {x : Str} {sp : Sp} {s : Shared} (KX : K.In s.heap) (hns : s.heap.Ns mainGlobals mg) (hb : s.heap.Ns builtinsNs mb) (hbb : ∀ x : Str, x ≠ "__name__" → mb x = bootBuiltins x) (hlim : s.heap.NoLimit) (hg : s.gens = #[])
    (hT : ∀ p ∈ cs, s.heap.get? p.2 = some { cls := .none, data := .fields #[] }) (nT : ∀ p ∈ cs, K.lookup p.2 = none) (C : ∀ p ∈ cs, PySem.W.CodeHd s.heap p.1 p.2)
    (hbm : ∃ (bm : Addr) (ob : Obj), mg "__builtins__" = some (.ref bm) ∧ bm ≠ builtinsNs ∧ s.heap.get? bm = some ob ∧ ob.cls = .type "module" ∧ ob.dict = some builtinsNs ∧ ob.data = .plain)
    (ha : s.heap.get? a = some { cls := .type "list", data := .seq vs.toArray }) (hi : IntsAre vs ns) (hl : ns.length ≤ sizeLine) (hr : Rm k callerA)
    (F : ∀ base : Heap, K.In base → base.Ns mainGlobals mg → (∀ p ∈ cs, TabB base mg p.1 p.2) → FnG P w K mg base k fa fd [x] sp) (hbind : ∀ (s : Shared) (u : Value), BindsTo s fd ⟨[u], []⟩ [(x, u)])
    (hsp : ∀ H : Hp, (∀ p ∈ cs, H p.2 = some (.tbl #[])) → SqL K H a (ns.map V.int) → sp [.ref a] H (fun v _ => v = .bl true) fun _ _ _ => False)
    (hCX : ∀ H e s', L2.CX P w [] H s (fun _ _ _ => False) e s' → False) :
    codeAny (model P w) callerA (.call (.ref fa) ⟨[.ref a], []⟩) (fun r s' => r = .ok (.ret (.bool true)) ∧ OldK s.heap s'.heap ∧ s'.os = s.os ∧ AllBare s'.gens) s := by
  obtain ⟨H, St, hok⟩ := start_at (P := P) (w := w) ha hi hl KX hT nT
  -- the heap without what is tracked
  have put : ∀ {b : Addr} {o : Obj}, s.heap.get? b = some o → H b = none → (hidT s.heap H).get? b = some o := fun e n => hidT_get e n
  have ns_ : ∀ {b : Addr} {m : Str → Option Value}, s.heap.Ns b m → (hidT s.heap H).Ns b m := fun {b m} q => by
    obtain ⟨o, es, ep, e, d, r⟩ := q
    exact ⟨o, es, ep, put e (St.none e (by intro i n z; rw [d] at z; cases z) (by intro z; rw [d] at z; cases z)), d, r⟩
  have K' : K.In (hidT s.heap H) := fun b o e => put (KX b o e) (St.free b (by rw [e]; simp))
  have M' : L2.Mod K mg (hidT s.heap H) := by
    obtain ⟨mc, l1, l2⟩ := hlim
    exact ⟨K', ns_ hns, ⟨mb, ns_ hb, hbb⟩, ⟨mc, ns_ l1, l2⟩⟩
  have TB : ∀ p ∈ cs, TabB (hidT s.heap H) mg p.1 p.2 := fun p hp => by
    constructor
    · obtain ⟨o, us, file, tf, flags, tg, inF, text, tt, e1, r1, r2, r3, r⟩ := C p hp
      refine ⟨o, us, file, tf, flags, tg, inF, text, tt, put e1 (St.none e1 (by intro i n z; rw [r2] at z; cases z) (by intro z; rw [r2] at z; cases z; simp at r3)), r1, r2, r3, r⟩
    · obtain ⟨bm, ob, b1, b2, b3, b4, b5, b6⟩ := hbm
      have n1 : bm ≠ mainGlobals := by
        intro q
        obtain ⟨o, es, ep, e, d, _⟩ := hns
        rw [q, e] at b3; cases b3
        rw [d] at b6; cases b6
      have n2 : bm ≠ p.2 := by
        intro q
        rw [q, hT p hp] at b3; cases b3; cases b6
      exact ⟨bm, ob, b1, b2, n1, n2, put b3 (St.none b3 (by intro i n z; rw [b6] at z; cases z) (by intro z; rw [b6] at z; cases z)), b4, b5, b6⟩
    · intro z
      obtain ⟨o, es, ep, e, d, _⟩ := hns
      rw [z, hT p hp] at e; cases e; cases d
  have e0 : Env0 P w K mg (hidT s.heap H) callerA [] s H := by
    refine ⟨rfl, M', fun b o e => of_hidT e, Nat.le_of_eq (hidT_size _ _), trivial, fun b hb => ?_, hok, .of_eq hg⟩
    exact absurd (show b ∈ ([] : List Addr) from hb) (by simp)
  have go := (F _ K' (ns_ hns) TB).run callerA [] s H ⟨[.ref a], []⟩ [.ref a] [.ref a] _ _ hr e0 (hbind s (.ref a)) (.cons rfl .nil) (hsp H St.tabs St.scr)
  refine codeAny_mono go fun r s' hq => ?_
  match r, hq with
  | .error e, hq => exact (hCX H e s' hq).elim
  | .ok (.ret u), hq =>
    obtain ⟨v, H', os, bare, un, hok', r', q⟩ := hq
    have q' : v = .bl true := q
    subst q'
    obtain rfl : u = Value.bool true := r'
    have tabs : ∀ b, b ∈ cs.map (·.2) → ∃ p ∈ cs, p.2 = b ∧ ∃ more : Array Value, s'.heap.get? b = some { cls := .none, data := .fields more } := fun b hb => by
      obtain ⟨p, hp, rfl⟩ := List.mem_map.mp hb
      obtain ⟨more, z⟩ := un.tbls p.2 #[] (St.tabs p hp)
      exact ⟨p, hp, rfl, _, hok' p.2 _ z⟩
    have keep : ∀ b o, b ∉ cs.map (·.2) → s.heap.get? b = some o → s'.heap.get? b = some o := fun b o nb e => by
      cases q : H b with
      | none => exact un.keep b o e q (by intro z; exact absurd (show b ∈ ([] : List Addr) from z) (by simp)) (by simp)
      | some t =>
        rcases St.only b t q with ⟨_, _, z⟩ | ⟨xs, its, rfl, z⟩
        · exact absurd z nb
        · rw [e] at z; cases z
          exact (hok' b _ (un.frzs b _ _ q)).1
    refine ⟨rfl, ⟨fun b o e => ?_, fun b o e => ?_⟩, os, bare⟩
    · by_cases hb : b ∈ cs.map (·.2)
      · obtain ⟨p, hp, rfl, more, hm⟩ := tabs b hb
        rw [hT p hp] at e; cases e
        exact .inr (.inl ⟨((C p hp).tab (hT p hp)).isCodeTable, rfl, #[], more, rfl, by rw [Array.empty_append]; exact hm⟩)
      · exact .inl (keep b o hb e)
    · by_cases hb : b ∈ cs.map (·.2)
      · obtain ⟨p, hp, rfl, more, hm⟩ := tabs b hb
        exact ⟨_, hm⟩
      · exact ⟨o, keep b o hb e⟩
/-- what is known of the law's promise at the head's heap -/
def LawG (l : PySem.W.OpenLaw) (w : World) (K : PySem.W.Frag) (k n : Nat) (x : Str) (mg : Str → Option Value) (fa : Addr) (h : Heap) : Prop :=
  ∃ (fd : FuncData) (cs : List (Addr × Addr)) (sp : Sp), (∀ p ∈ cs, h.get? p.2 = some { cls := .none, data := .fields #[] }) ∧ (∀ p ∈ cs, K.lookup p.2 = none) ∧ (∀ p ∈ cs, PySem.W.CodeHd h p.1 p.2) ∧ (∀ (s : Shared) (u : Value), BindsTo s fd ⟨[u], []⟩ [(x, u)]) ∧
    (∀ (H : Hp) (a : Addr) (ns : List Int), ns.length ≤ n → (∀ z ∈ ns, Builtin.Int.intBits z ≤ 1048576) → (∀ p ∈ cs, H p.2 = some (.tbl #[])) → SqL K H a (ns.map V.int) → sp [.ref a] H (fun v _ => v = .bl true) fun _ _ _ => False) ∧
    ∀ base : Heap, K.In base → base.Ns mainGlobals mg → (∀ p ∈ cs, TabB base mg p.1 p.2) → FnG l.prog w K mg base k fa fd [x] sp
theorem walkG {l : PySem.W.OpenLaw} {n k : Nat} {q : Program} {loose : List Str} {XP : (Str → Option Value) → Heap → Prop} {YP : World → Heap → Prop} {d : DefRec} {x : Str}
    (hn : l.most = some n) (hn2 : n ≤ sizeLine) (hdf : d.params.defaults = []) (hr : Rm k callerA)
    (F : ∀ (w : World) (mg : Str → Option Value) (fa : Addr) (h : Heap), YP w h → h.Ns mainGlobals mg → mg d.name = some (.ref fa) → ∃ K : PySem.W.Frag, K.In h ∧ LawG l w K k n x mg fa h)
    (hCX : ∀ (w : World) (H : Hp) (s : Shared) (e : Value) (s' : Shared), L2.CX l.prog w [] H s (fun _ _ _ => False) e s' → False) :
    PySem.W.WalkO q loose XP YP l.row.toRowW d [] (fun f vs => PySem.call f vs) := by
  refine Att.attach_callB hn hdf fun w s₀ s₁ mg mb fa o pm cd doc a vs ns G Y ho hd hcd hmg hobj hints hlen hbits hg => ?_
  obtain ⟨K, KX, fd, cs, sp, hT, nT, C, hb, hsp, hF⟩ := F w mg fa _ Y G.T.g hmg
  exact law_callG KX G.T.g G.T.b G.T.builtins G.T.nolimit hg hT nT C G.T.bmain hobj hints (Nat.le_trans hlen hn2) hr hF hb (fun H hH hS => hsp H a ns hlen hbits hH hS) fun H e s' => hCX w H s₁ e s'
end
end L2.Z

set_option Elab.async false
set_option linter.all false
set_option maxRecDepth 100000
set_option maxHeartbeats 4000000
/-! ZH: words for the head and the law's end. -/
namespace L2.Z
open PySem PySem.Spec PyProof.Rows
def clsAt (s : Stmt) (j : Nat) : Stmt := match s with
  | .ClassDef _ _ _ b _ _ _ _ _ _ _ => b.getD j (.Pass ⟨0, 0, 0, 0⟩)
  | s => s
def bltB (K : PySem.W.Frag) (B i : String) : Bool := match PySem.W.findCls K (.type B) (.type "type") "__init__" with
  | some (.val (.builtin i')) => i' == i
  | _ => false
theorem bltB_ok {K : PySem.W.Frag} {B i : String} (h : bltB K B i = true) : PySem.W.findCls K (.type B) (.type "type") "__init__" = some (.val (.builtin i)) := by
  unfold bltB at h
  split at h
  · rename_i i' e
    rw [e, beq_iff_eq.mp h]
  · cases h
theorem look_mem {α β : Type} [BEq α] [LawfulBEq α] {a : α} {b : β} : ∀ {l : List (α × β)}, l.lookup a = some b → (a, b) ∈ l
  | [], h => by cases h
  | (x, y) :: r, h => by
    simp only [List.lookup] at h
    cases q : (a == x) with
    | true =>
      rw [q] at h
      cases h
      rw [eq_of_beq q]
      exact List.mem_cons_self
    | false =>
      rw [q] at h
      exact List.mem_cons_of_mem _ (look_mem h)
def nodupB : List Addr → Bool
  | [] => true
  | a :: r => !r.contains a && nodupB r
theorem nodupB_ok : ∀ {l : List Addr}, nodupB l = true → l.Nodup
  | [], _ => List.nodup_nil
  | a :: r, h => by
    simp only [nodupB, Bool.and_eq_true, Bool.not_eq_true'] at h
    refine List.nodup_cons.mpr ⟨fun z => ?_, nodupB_ok h.2⟩
    have := List.contains_iff_mem.mpr z
    rw [this] at h
    cases h.1
def lamN (n : Str) : Str := n ++ ".<locals>." ++ "<lambda>"
def lamT (tf : List He.Defn) (K : PySem.W.Frag) : List (Addr × Str) := tf.map fun p => ((He.cT K p).2, lamN p.1)
theorem map_inj_of {α : Type} {f : α → Addr} : ∀ {l : List α}, (l.map f).Nodup → ∀ {x y : α}, x ∈ l → y ∈ l → f x = f y → x = y
  | [], _, _, _, hx, _, _ => by cases hx
  | a :: r, h, x, y, hx, hy, e => by
    simp only [List.map_cons, List.nodup_cons] at h
    rcases List.mem_cons.mp hx with ex | hx1
    · rcases List.mem_cons.mp hy with ey | hy1
      · rw [ex, ey]
      · exact absurd (by rw [← ex, e]; exact List.mem_map_of_mem hy1) h.1
    · rcases List.mem_cons.mp hy with ey | hy1
      · exact absurd (by rw [← ey, ← e]; exact List.mem_map_of_mem hx1) h.1
      · exact map_inj_of h.2 hx1 hy1 e
theorem knt_of {tf : List He.Defn} {K : PySem.W.Frag} {base : Heap} {mg : Str → Option Value} (hnd : nodupB (tf.map fun p => (He.cT K p).2) = true) (hB : ∀ p ∈ tf.map (He.cT K), LamX.TabB base mg p.1 p.2) {n : Str} (hm : (n, none) ∈ tf) :
    @KnT ⟨lamT tf K⟩ base mg (n ++ ".<locals>." ++ "<lambda>") (He.codeOf K (n, none)) := by
  letI : HasT := ⟨lamT tf K⟩
  refine ⟨⟨(He.cT K (n, none)).2, hB (He.cT K (n, none)) (List.mem_map_of_mem hm), List.mem_map.mpr ⟨(n, none), hm, rfl⟩, fun p hp e => ?_⟩⟩
  obtain ⟨q, hq, rfl⟩ := List.mem_map.mp hp
  have : q = (n, none) := map_inj_of (nodupB_ok hnd) hq hm e
  rw [this]
  rfl
theorem lawAt_of {l : PySem.W.OpenLaw} {w : World} {K : PySem.W.Frag} {mg : Str → Option Value} {h : Heap} {k : Nat} {x : Str} {fa : Addr} {fd : FuncData} {tf : List He.Defn} {c : List D → M D} (X : K.In h)
    (hd : ∀ p ∈ tf, PySem.W.codeHdIn K (He.cT K p).1 (He.cT K p).2 = true) (out : ∀ p ∈ tf, K.lookup (He.cT K p).2 = none) (empty : ∀ p ∈ tf, h.get? (He.cT K p).2 = some { cls := .none, data := .fields #[] })
    (hb : ∀ (s : Shared) (u : Value), BindsTo s fd ⟨[u], []⟩ [(x, u)])
    (hc : ∀ ns : List Int, ns.length ≤ 63 → (∀ z ∈ ns, Builtin.Int.intBits z ≤ 1048576) → ∃ S, c [.scr ns] ⟨[], 0⟩ = .ok (.bl true) S)
    (hF : ∀ base : Heap, K.In base → base.Ns mainGlobals mg → (∀ p ∈ tf.map (He.cT K), LamX.TabB base mg p.1 p.2) → FnG l.prog w K mg base k fa fd [x] (@spZ ⟨lamT tf K⟩ K mg 1 c)) :
    LawG l w K k 63 x mg fa h := by
  refine ⟨fd, tf.map (He.cT K), @spZ ⟨lamT tf K⟩ K mg 1 c, ?_, ?_, ?_, hb, ?_, hF⟩
  · intro p hp
    obtain ⟨q, hq, rfl⟩ := List.mem_map.mp hp
    exact empty q hq
  · intro p hp
    obtain ⟨q, hq, rfl⟩ := List.mem_map.mp hp
    exact out q hq
  · intro p hp
    obtain ⟨q, hq, rfl⟩ := List.mem_map.mp hp
    exact PySem.W.codeHd_of_K X (hd q hq)
  · intro H a ns hl hbits hT hS
    letI : HasT := ⟨lamT tf K⟩
    obtain ⟨S, e⟩ := hc ns hl hbits
    refine ⟨[], ⟨[], 0⟩, [.scr ns], rfl, ⟨?_, List.nodup_nil, rfl, fun i b e => by simp at e⟩, ?_, ?_⟩
    · intro p hp
      obtain ⟨q, hq, rfl⟩ := List.mem_map.mp hp
      exact LamX.TabS.nil (hT (He.cT K q) (List.mem_map_of_mem hq))
    · simp only [RDs, RD]
      exact ⟨_, [], rfl, ⟨a, rfl, ScrAt.of hS⟩, rfl⟩
    · rw [e]
      intro m' H' _ _ v rv
      simp only [RD] at rv
      exact rv
theorem cx_false {P : Program} {w : World} {H : Hp} {s : Shared} {e : Value} {s' : Shared} (h : L2.CX P w [] H s (fun _ _ _ => False) e s') : False := by
  obtain ⟨_, _, _, _, _, _, _, _, _, _, _, _, z⟩ := h
  exact z
/-! ### the Hook, the statics beside -/
def asZ (g : Addr → Option Obj) (n : Nat) : List Addr := cStatics :: He.asD g n
def obsZ (n : Nat) (fa : List He.Fa) (fn : List He.DefD) (ts : List He.Tab) (tf : List He.Defn) (ex : PySem.W.Frag → Bool) (g : Addr → Option Obj) : He.AlX :=
  let K := He.frT g (asZ g n)
  (He.obsT fa fn ts K, ex K && He.tabsB g tf K)
theorem saysZ {as : List Addr} {fa : List He.Fa} {fn : List He.DefD} {ts : List He.Tab} {tf : List He.Defn} {ex : PySem.W.Frag → Bool} {w : World} {h : Heap}
    (e : ((He.obsT fa fn ts (He.frT h.get? as), ex (He.frT h.get? as) && He.tabsB h.get? tf (He.frT h.get? as)) : He.AlX) = He.valX fn ts w) : He.SaysX fa fn ts tf ex w h (He.frT h.get? as) := by
  generalize hK : He.frT h.get? as = K at e
  have e1 := congrArg Prod.fst e
  have e2 := Bool.and_eq_true_iff.mp (congrArg Prod.snd e)
  have look : ∀ p ∈ tf, PySem.W.codeHdIn K (He.cT K p).1 (He.cT K p).2 = true ∧ ∃ o, h.get? (He.cT K p).2 = some o ∧ He.emptyTab o = true := by
    intro p hp
    have z := Bool.and_eq_true_iff.mp (List.all_eq_true.mp e2.2 p hp)
    refine ⟨z.1, ?_⟩
    have z2 := z.2
    split at z2
    · exact ⟨_, by assumption, z2⟩
    · cases z2
  constructor
  · exact e1
  · exact e2.1
  · exact fun p hp => (look p hp).1
  · intro p hp
    obtain ⟨o, q, z⟩ := (look p hp).2
    rw [← hK] at q ⊢
    exact He.frT_none q z
  · intro p hp
    obtain ⟨o, q, z⟩ := (look p hp).2
    exact q.trans (congrArg some (He.emptyTab_eq z))
def hookZ (n : Nat) (fa : List He.Fa) (fn : List He.DefD) (ts : List He.Tab) (tf : List He.Defn) (ex : PySem.W.Frag → Bool) : PySem.W.Hook where
  α := He.AlX
  obs s := obsZ n fa fn ts tf ex s.heap.get?
  val w := He.valX fn ts w
  says w h := ∃ K : PySem.W.Frag, K.In h ∧ He.SaysX fa fn ts tf ex w h K
  of := fun _ _ e => ⟨_, He.frT_in, saysZ e⟩
  keeps := fun _ _ _ z k => z.elim fun K c => ⟨K, c.1.keeps k, c.2.t, c.2.more, c.2.hd, c.2.out, fun p hp => k _ _ (c.2.empty p hp)⟩
theorem obsZ_eq {n : Nat} {fa : List He.Fa} {fn : List He.DefD} {ts : List He.Tab} {tf : List He.Defn} {ex : PySem.W.Frag → Bool} {g : Addr → Option Obj} {s : Shared} (h : ∀ a, g a = s.heap.get? a) : obsZ n fa fn ts tf ex g = (hookZ n fa fn ts tf ex).obs s := by
  rw [funext h]; rfl
end L2.Z

set_option Elab.async false
set_option linter.all false
set_option maxRecDepth 100000
set_option maxHeartbeats 4000000
/-! ZP: the plain layer: what a denotation answers, by weakest preconditions. -/
namespace L2.Z
open PySem PySem.Spec PyProof.Rows

def wp {α : Type} (m : M α) (S : Sto) (Q : α → Sto → Prop) (E : Xc → Sto → Prop) : Prop := match m S with
  | .ok a S' => Q a S'
  | .exc x S' => E x S'
  | .bad => False
def wo (o : Option (D × Sto)) (Q : D → Sto → Prop) : Prop := match o with
  | some (d, S) => Q d S
  | none => False
/-- a statement's: what is asked by how it ends -/
abbrev Rs := Fl → Env → Sto → Prop
def ws (g : Sm) (σ : Env) (S : Sto) (R : Rs) : Prop := match g σ S with
  | .ok (fl, σ') S' => R fl σ' S'
  | _ => False
def wm (m : M (Fl × Env)) (S : Sto) (R : Rs) : Prop := match m S with
  | .ok (fl, σ') S' => R fl σ' S'
  | _ => False
def wQ (b : Bool) (A B : Prop) : Prop := if b = true then A else B
def wB (d : D) (A B : Prop) : Prop := match d with
  | .bl true => A
  | .bl false => B
  | _ => False
def sq (g : Sm) (R : Rs) : Rs := fun fl σ S => match fl with
  | .nx => ws g σ S R
  | .bk => R .bk σ S
  | .ct => R .ct σ S
  | .rt d => R (.rt d) σ S
  | .xc x => R (.xc x) σ S
def fz (Q : D → Sto → Prop) (E : Xc → Sto → Prop) : Rs := fun fl _ S => match fl with
  | .nx => Q .non S
  | .rt d => Q d S
  | .xc x => E x S
  | _ => False
/-- what is there, then what is asked of it -/
def wt {α : Type} (o : Option α) (P : α → Prop) : Prop := ∃ a, o = some a ∧ P a
def wz (n : Nat) (P : Prop) : Prop := n ≤ sizeLine ∧ P
def asBl : D → Option Bool
  | .bl b => some b
  | _ => none
def asInt : D → Option Int
  | .int b => some b
  | _ => none
def as2 {α : Type} : List α → Option (α × α)
  | [a, b] => some (a, b)
  | _ => none
def as3 {α : Type} : List α → Option (α × α × α)
  | [a, b, c] => some (a, b, c)
  | _ => none
abbrev noX : Xc → Sto → Prop := fun _ _ => False
section
variable {α β : Type} {S S' : Sto} {σ : Env} {Q Q' : D → Sto → Prop} {E E' : Xc → Sto → Prop} {R R' : Rs} {A B : Prop}
theorem wp.imp {m : M α} {Q Q' : α → Sto → Prop} (h : wp m S Q E) (q : ∀ a S', Q a S' → Q' a S') (e : ∀ x S', E x S' → E' x S') : wp m S Q' E' := by
  unfold wp at h ⊢
  cases z : m S with
  | ok a S1 => rw [z] at h; exact q _ _ h
  | exc x S1 => rw [z] at h; exact e _ _ h
  | bad => rw [z] at h; exact h
theorem wp.use {m : M α} {Q Q' : α → Sto → Prop} (h : wp m S Q noX) (q : ∀ a S', Q a S' → Q' a S') : wp m S Q' E' := h.imp q fun _ _ z => z.elim
theorem wp.ok {m : M α} {Q : α → Sto → Prop} (h : wp m S Q noX) : ∃ a S', m S = .ok a S' ∧ Q a S' := by
  unfold wp at h
  cases z : m S with
  | ok a S1 => rw [z] at h; exact ⟨_, _, rfl, h⟩
  | exc x S1 => rw [z] at h; exact h.elim
  | bad => rw [z] at h; exact h.elim
theorem wp.of {m : M α} {Q : α → Sto → Prop} {a : α} (e : m S = .ok a S') (h : Q a S') : wp m S Q E := by unfold wp; rw [e]; exact h
theorem wp_bnd {m : M α} {k : α → M β} {Q : β → Sto → Prop} (h : wp m S (fun a S1 => wp (k a) S1 Q E) E) : wp (bnd m k) S Q E := by
  unfold wp at h ⊢
  unfold bnd
  cases z : m S with
  | ok a S1 => rw [z] at h; exact h
  | exc x S1 => rw [z] at h; exact h
  | bad => rw [z] at h; exact h
theorem wp_ret {a : α} {Q : α → Sto → Prop} (h : Q a S) : wp (ret a) S Q E := h
theorem wp_up {o : Sto → Option (D × Sto)} (h : wo (o S) Q) : wp (up o) S Q E := by
  unfold wo at h
  unfold wp up
  cases z : o S with
  | none => rw [z] at h; exact h.elim
  | some p => rw [z] at h; exact h
theorem wo_of {o : Option (D × Sto)} {d : D} (e : o = some (d, S')) (h : Q d S') : wo o Q := by rw [e]; exact h
/-! ### expressions -/
theorem w_C {d : D} (h : Q d S) : wp (eC d σ) S Q E := h
theorem w_var {i : Nat} {d : D} (e : σ[i]? = some (some d)) (h : Q d S) : wp (eVar i σ) S Q E := by
  unfold eVar
  rw [e]
  exact h
theorem w_e1 {h : F1} {f : Env → M D} (w : wp (f σ) S (fun x S1 => wo (h x S1) Q) E) : wp (e1 h f σ) S Q E := wp_bnd (w.imp (fun _ _ z => wp_up z) fun _ _ z => z)
theorem w_e2 {h : F2} {f g : Env → M D} (w : wp (f σ) S (fun x S1 => wp (g σ) S1 (fun y S2 => wo (h x y S2) Q) E) E) : wp (e2 h f g σ) S Q E :=
  wp_bnd (w.imp (fun _ _ z => wp_bnd (z.imp (fun _ _ z => wp_up z) fun _ _ z => z)) fun _ _ z => z)
theorem w_nil {Q : List D → Sto → Prop} (h : Q [] S) : wp (aNil σ) S Q E := h
theorem w_cons {f : Env → M D} {g : Env → M (List D)} {Q : List D → Sto → Prop} (w : wp (f σ) S (fun x S1 => wp (g σ) S1 (fun xs S2 => Q (x :: xs) S2) E) E) : wp (aCons f g σ) S Q E :=
  wp_bnd (w.imp (fun _ _ z => wp_bnd (z.imp (fun _ _ z => z) fun _ _ z => z)) fun _ _ z => z)
theorem w_tup {g : Env → M (List D)} (w : wp (g σ) S (fun ds S1 => wz ds.length (Q (.tup ds) S1)) E) : wp (eTup g σ) S Q E :=
  wp_bnd (w.imp (fun ds S1 z => wp_up (wo_of (by unfold mkTup; rw [Nat.ble_eq_true_of_le z.1]) z.2)) fun _ _ z => z)
theorem w_lst {g : Env → M (List D)} (w : wp (g σ) S (fun ds S1 => wz ds.length (Q (.loc S1.n) (S1.push (.lst ds)))) E) : wp (eLst g σ) S Q E :=
  wp_bnd (w.imp (fun ds S1 z => wp_up (wo_of (by unfold mkLst; rw [Nat.ble_eq_true_of_le z.1]) z.2)) fun _ _ z => z)
theorem w_cb {h : FL} {g : Env → M (List D)} (w : wp (g σ) S (fun ds S1 => wo (h ds S1) Q) E) : wp (eCB h g σ) S Q E := wp_bnd (w.imp (fun _ _ z => wp_up z) fun _ _ z => z)
theorem w_call {c : Orc} {i : Nat} {g : Env → M (List D)} (w : wp (g σ) S (fun ds S1 => wp (c i ds) S1 Q E) E) : wp (eCall c i g σ) S Q E := wp_bnd w
theorem w_not {f : Env → M D} (w : wp (f σ) S (fun x S1 => wt (asBl x) fun b => Q (.bl (!b)) S1) E) : wp (eNot f σ) S Q E :=
  wp_bnd (w.imp (fun d _ z => by
    obtain ⟨b, e, z⟩ := z
    cases d with
    | bl c => cases e; exact z
    | _ => cases e) fun _ _ z => z)
theorem w_and {f g : Env → M D} (w : wp (f σ) S (fun x S1 => wB x (wp (g σ) S1 Q E) (Q (.bl false) S1)) E) : wp (eAnd f g σ) S Q E :=
  wp_bnd (w.imp (fun d _ z => by
    cases d with
    | bl b => cases b <;> exact z
    | _ => exact z.elim) fun _ _ z => z)
theorem w_or {f g : Env → M D} (w : wp (f σ) S (fun x S1 => wB x (Q (.bl true) S1) (wp (g σ) S1 Q E)) E) : wp (eOr f g σ) S Q E :=
  wp_bnd (w.imp (fun d _ z => by
    cases d with
    | bl b => cases b <;> exact z
    | _ => exact z.elim) fun _ _ z => z)
theorem w_if {t : Env → M Bool} {f g : Env → M D} (w : wp (t σ) S (fun b S1 => wQ b (wp (f σ) S1 Q E) (wp (g σ) S1 Q E)) E) : wp (eIf t f g σ) S Q E :=
  wp_bnd (w.imp (fun b _ z => by cases b <;> exact z) fun _ _ z => z)
theorem w_chain {h h' : F2} {f g k : Env → M D} (w : wp (f σ) S (fun x S1 => wp (g σ) S1 (fun y S2 => wo (h x y S2) fun z S3 => wB z (wp (k σ) S3 (fun w S4 => wo (h' y w S4) Q) E) (Q (.bl false) S3)) E) E) : wp (eChain h h' f g k σ) S Q E := by
  refine wp_bnd (w.imp (fun _ _ z => wp_bnd (z.imp (fun _ _ z => ?_) fun _ _ z => z)) fun _ _ z => z)
  refine wp_bnd ((wp_up z).imp (fun d _ z => ?_) fun _ _ z => z)
  cases d with
  | bl b =>
    cases b with
    | true => exact wp_bnd (z.imp (fun _ _ z => wp_up z) fun _ _ z => z)
    | false => exact z
  | _ => exact z.elim
/-! ### tests -/
theorem w_tV {f : Env → M D} {Q : Bool → Sto → Prop} (w : wp (f σ) S (fun x S1 => wt (tru x S1) fun b => Q b S1) E) : wp (tV f σ) S Q E :=
  wp_bnd (w.imp (fun d S1 z => by obtain ⟨b, e, z⟩ := z; unfold wp truM; rw [e]; exact z) fun _ _ z => z)
theorem w_tN {t : Env → M Bool} {Q : Bool → Sto → Prop} (w : wp (t σ) S (fun b S1 => Q (!b) S1) E) : wp (tNotM t σ) S Q E := wp_bnd w
theorem w_tA {t u : Env → M Bool} {Q : Bool → Sto → Prop} (w : wp (t σ) S (fun b S1 => wQ b (wp (u σ) S1 Q E) (Q false S1)) E) : wp (tAndM t u σ) S Q E :=
  wp_bnd (w.imp (fun b _ z => by cases b <;> exact z) fun _ _ z => z)
theorem w_tO {t u : Env → M Bool} {Q : Bool → Sto → Prop} (w : wp (t σ) S (fun b S1 => wQ b (Q true S1) (wp (u σ) S1 Q E)) E) : wp (tOrM t u σ) S Q E :=
  wp_bnd (w.imp (fun b _ z => by cases b <;> exact z) fun _ _ z => z)
theorem w_tY {Q : Bool → Sto → Prop} (h : Q true S) : wp (tYesM σ) S Q E := h
theorem w_sl {f : Env → M D} {lo hi : OE} (w : wp (f σ) S (fun x S1 => wp (oM lo σ) S1 (fun l S2 => wp (oM hi σ) S2 (fun h S3 => wo (fSl x l h S3) Q) E) E) E) : wp (eSl f lo hi σ) S Q E :=
  wp_bnd (w.imp (fun _ _ z => wp_bnd (z.imp (fun _ _ z => wp_bnd (z.imp (fun _ _ z => wp_up z) fun _ _ z => z)) fun _ _ z => z)) fun _ _ z => z)
theorem w_oN {Q : Option Int → Sto → Prop} (h : Q none S) : wp (oM none σ) S Q E := h
theorem w_oS {g : Env → M D} {Q : Option Int → Sto → Prop} (w : wp (g σ) S (fun d S1 => wt (asInt d) fun i => Q (some i) S1) E) : wp (oM (some g) σ) S Q E :=
  wp_bnd (w.imp (fun d _ z => by
    obtain ⟨b, e, z⟩ := z
    cases d with
    | int c => cases e; exact z
    | _ => cases e) fun _ _ z => z)
theorem w_m {h : D → FL} {f : Env → M D} {g : Env → M (List D)} (w : wp (f σ) S (fun x S1 => wp (chkL x) S1 (fun _ S2 => wp (g σ) S2 (fun ds S3 => wo (h x ds S3) Q) E) E) E) : wp (eM h f g σ) S Q E :=
  wp_bnd (w.imp (fun _ _ z => wp_bnd (z.imp (fun _ _ z => wp_bnd (z.imp (fun _ _ z => wp_up z) fun _ _ z => z)) fun _ _ z => z)) fun _ _ z => z)
theorem w_chkL {n : Nat} {xs : List D} {Q : Unit → Sto → Prop} (e : S.get n = some (.lst xs)) (h : Q () S) : wp (chkL (.loc n)) S Q E := by
  have e2 : lstAt S n = some xs := by unfold lstAt; rw [e]
  unfold wp chkL
  simp only [e2]
  exact h
theorem wQ_t {b : Bool} (e : b = true) (h : A) : wQ b A B := by unfold wQ; rw [if_pos e]; exact h
theorem wQ_f {b : Bool} (e : b = false) (h : B) : wQ b A B := by unfold wQ; rw [if_neg (by rw [e]; decide)]; exact h
theorem wQ_c {b : Bool} (h1 : b = true → A) (h2 : b = false → B) : wQ b A B := by
  cases b with
  | true => exact h1 rfl
  | false => exact h2 rfl
theorem wB_t {b : Bool} (e : b = true) (h : A) : wB (.bl b) A B := by subst e; exact h
theorem wB_f {b : Bool} (e : b = false) (h : B) : wB (.bl b) A B := by subst e; exact h
theorem wB_c {b : Bool} (h1 : b = true → A) (h2 : b = false → B) : wB (.bl b) A B := by
  cases b with
  | true => exact h1 rfl
  | false => exact h2 rfl
/-! ### statements -/
theorem ws.imp {g : Sm} (h : ws g σ S R) (q : ∀ fl σ' S', R fl σ' S' → R' fl σ' S') : ws g σ S R' := by
  unfold ws at h ⊢
  cases z : g σ S with
  | ok p S1 => obtain ⟨fl, σ1⟩ := p; rw [z] at h; exact q _ _ _ h
  | exc x S1 => rw [z] at h; exact h
  | bad => rw [z] at h; exact h
theorem ws_nil (h : R .nx σ S) : ws sNil σ S R := h
theorem ws_seq {a b : Sm} (h : ws a σ S (sq b R)) : ws (sSeq a b) σ S R := by
  unfold ws at h ⊢
  unfold sSeq
  cases z : a σ S with
  | ok p S1 =>
    obtain ⟨fl, σ1⟩ := p
    rw [z] at h
    cases fl <;> exact h
  | exc x S1 => rw [z] at h; exact h
  | bad => rw [z] at h; exact h
theorem wm_sE {m : M α} {k : α → M (Fl × Env)} (h : wp m S (fun a S1 => wm (k a) S1 R) fun x S1 => R (.xc x) σ S1) : wm (sE m σ k) S R := by
  unfold wp at h
  unfold wm sE
  cases z : m S with
  | ok p S1 => rw [z] at h; exact h
  | exc x S1 => rw [z] at h; exact h
  | bad => rw [z] at h; exact h
theorem ws_ret {f : Env → M D} (h : wp (f σ) S (fun d S1 => R (.rt d) σ S1) fun x S1 => R (.xc x) σ S1) : ws (sRet f) σ S R := wm_sE h
theorem ws_retN (h : R (.rt .non) σ S) : ws sRetN σ S R := h
theorem ws_drop {f : Env → M D} (h : wp (f σ) S (fun _ S1 => R .nx σ S1) fun x S1 => R (.xc x) σ S1) : ws (sDrop f) σ S R := wm_sE h
theorem ws_set {i : Nat} {f : Env → M D} (h : wp (f σ) S (fun d S1 => R .nx (σ.set i (some d)) S1) fun x S1 => R (.xc x) σ S1) : ws (sSet i f) σ S R := wm_sE h
theorem ws_if {t : Env → M Bool} {a b : Sm} (h : wp (t σ) S (fun c S1 => wQ c (ws a σ S1 R) (ws b σ S1 R)) fun x S1 => R (.xc x) σ S1) : ws (sIf t a b) σ S R :=
  wm_sE (h.imp (fun c _ z => by cases c <;> exact z) fun _ _ z => z)
theorem ws_un {t : Tg} {f : Env → M D} (h : wp (f σ) S (fun d S1 => wt (t d σ) fun σ' => R .nx σ' S1) fun x S1 => R (.xc x) σ S1) : ws (sUn t f) σ S R :=
  wm_sE (h.imp (fun d _ z => by obtain ⟨σ', e, z⟩ := z; rw [e]; exact z) fun _ _ z => z)
theorem ws_par {i j : Nat} {g : Env → M (List D)} (h : wp (g σ) S (fun ds S1 => wt (as2 ds) fun p => R .nx ((σ.set i (some p.1)).set j (some p.2)) S1) fun x S1 => R (.xc x) σ S1) : ws (sPar i j g) σ S R :=
  wm_sE (h.imp (fun d _ z => by
    obtain ⟨p, e, z⟩ := z
    match d, e with
    | [a, b], e => cases e; exact z) fun _ _ z => z)
theorem ws_par3 {i j l : Nat} {g : Env → M (List D)} (h : wp (g σ) S (fun ds S1 => wt (as3 ds) fun p => R .nx (((σ.set i (some p.1)).set j (some p.2.1)).set l (some p.2.2)) S1) fun x S1 => R (.xc x) σ S1) : ws (sPar3 i j l g) σ S R :=
  wm_sE (h.imp (fun d _ z => by
    obtain ⟨p, e, z⟩ := z
    match d, e with
    | [a, b, c], e => cases e; exact z) fun _ _ z => z)
theorem ws_sub {fo fi fe : Env → M D} (h : wp (fe σ) S (fun v S1 => wp (fo σ) S1 (fun x S2 => wp (fi σ) S2 (fun i S3 => wt (fPut x i v S3) fun S4 => R .nx σ S4) fun x S1 => R (.xc x) σ S1) fun x S1 => R (.xc x) σ S1) fun x S1 => R (.xc x) σ S1) : ws (sSub fo fi fe) σ S R :=
  wm_sE (h.imp (fun d _ z => wm_sE (z.imp (fun _ _ z => wm_sE (z.imp (fun _ _ z => by obtain ⟨S4, e, z⟩ := z; unfold wm; simp only [e]; exact z) fun _ _ z => z)) fun _ _ z => z)) fun _ _ z => z)
theorem ws_raise {x : Str} {fs : List Str} {g : Env → M (List D)} (h : wp (g σ) S (fun ds S1 => ds.length = fs.length ∧ R (.xc ⟨x, fs.reverse, ds.reverse⟩) σ S1) fun x S1 => R (.xc x) σ S1) : ws (sRaise x fs g) σ S R :=
  wm_sE (h.imp (fun d _ z => by
    have e : Nat.beq d.length fs.length = true := by rw [z.1]; exact Nat.beq_refl _
    unfold wm
    simp only [e]
    exact z.2) fun _ _ z => z)
def tr (sub : Str → Str → Option Bool) (hs : List Hd) (R : Rs) : Rs := fun fl σ S => match fl with
  | .nx => R .nx σ S
  | .bk => R .bk σ S
  | .ct => R .ct σ S
  | .rt d => R (.rt d) σ S
  | .xc x => wm (runH sub x hs σ) S R
theorem tr_nx {sub : Str → Str → Option Bool} {hs : List Hd} (h : R .nx σ S) : tr sub hs R .nx σ S := h
theorem tr_rt {sub : Str → Str → Option Bool} {hs : List Hd} {d : D} (h : R (.rt d) σ S) : tr sub hs R (.rt d) σ S := h
theorem tr_xc {sub : Str → Str → Option Bool} {hs : List Hd} {x : Xc} (h : wm (runH sub x hs σ) S R) : tr sub hs R (.xc x) σ S := h
theorem ws_try {sub : Str → Str → Option Bool} {b : Sm} {hs : List Hd} (h : ws b σ S (tr sub hs R)) : ws (sTry sub b hs) σ S R := by
  unfold ws at h ⊢
  unfold sTry
  cases z : b σ S with
  | ok p S1 =>
    obtain ⟨fl, σ1⟩ := p
    rw [z] at h
    cases fl <;> exact h
  | exc x S1 => rw [z] at h; exact h
  | bad => rw [z] at h; exact h
/-! ### calls -/
theorem call_go {bs : Nat → Option Bd} {k i n len : Nat} {b : Orc → Sm} {ds : List D} (hb : bs i = some ⟨n, len, b⟩) (hl : Nat.beq ds.length n = true) (hs : ds.map some ++ List.replicate (len - n) none = σ) (h : ws (b (callZ bs k)) σ S (fz Q E)) : wp (callZ bs (k + 1) i ds) S Q E := by
  subst hs
  unfold wp
  have e : callZ bs (k + 1) i ds = runZ n len (b (callZ bs k)) ds := by
    show (match bs i with
      | some d => runZ d.n d.len (d.b (callZ bs k)) ds
      | none => bad) = _
    rw [hb]
  rw [e]
  unfold runZ
  simp only [hl]
  unfold ws at h
  cases z : b (callZ bs k) (ds.map some ++ List.replicate (len - n) none) S with
  | ok p S1 =>
    obtain ⟨fl, σ1⟩ := p
    rw [z] at h
    cases fl <;> exact h
  | exc x S1 => rw [z] at h; exact h.elim
  | bad => rw [z] at h; exact h.elim
end

/-! ### stores that grow -/
/-- S' has what S has, but for the objects ex -/
structure Gx (ex : List Nat) (S S' : Sto) : Prop where
  le : S.n ≤ S'.n
  at_ : ∀ i, i < S.n → i ∉ ex → S'.get i = S.get i
abbrev Gr := Gx []
section
variable {ex ex' : List Nat} {S S1 S2 : Sto} {i : Nat} {o : O}
theorem Gx.refl (ex : List Nat) (S : Sto) : Gx ex S S := ⟨Nat.le_refl _, fun _ _ _ => rfl⟩
theorem Gx.trans (a : Gx ex S S1) (b : Gx ex S1 S2) : Gx ex S S2 := ⟨Nat.le_trans a.le b.le, fun i h n => (b.at_ i (Nat.lt_of_lt_of_le h a.le) n).trans (a.at_ i h n)⟩
theorem Gx.wide (a : Gx ex S S1) (h : ∀ i ∈ ex, i < S.n → i ∈ ex') : Gx ex' S S1 := ⟨a.le, fun i hi n => a.at_ i hi fun z => n (h i z hi)⟩
theorem Gx.get (a : Gx ex S S1) (h : S.get i = some o) (n : i ∉ ex) : S1.get i = some o := (a.at_ i (Sto.lt_of h) n).trans h
theorem Gr.get (a : Gr S S1) (h : S.get i = some o) : S1.get i = some o := Gx.get a h (by simp)
theorem Gx.push (o : O) (a : Gx ex S S1) : Gx ex S (S1.push o) := ⟨Nat.le_succ_of_le a.le, fun i h n => (Sto.get_push_lt (Nat.lt_of_lt_of_le h a.le)).trans (a.at_ i h n)⟩
theorem Gx.set (a : Gx ex S S1) (h : i ∈ ex ∨ S.n ≤ i) (hi : i < S1.n) (o : O) : Gx ex S (S1.set i o) := ⟨a.le, fun j hj n => by
  have hne : j ≠ i := fun z => by
    subst z
    rcases h with h | h
    · exact n h
    · omega
  exact (Sto.get_set_ne hne hi).trans (a.at_ j hj n)⟩
theorem Gx.any (a : Gx [] S S1) (ex : List Nat) : Gx ex S S1 := a.wide fun _ h => by cases h
end

/-! ### loops -/
section
variable {S : Sto} {σ : Env} {R : Rs} {E : Xc → Sto → Prop} {Q : D → Sto → Prop}
theorem w_isq {f : Env → M D} {Q : Itm → Sto → Prop} (w : wp (f σ) S (fun d S1 => wt (itOf d S1) fun it => Q it S1) E) : wp (iSeq f σ) S Q E :=
  wp_bnd (w.imp (fun d S1 z => by obtain ⟨it, e, z⟩ := z; unfold wp upI; rw [e]; exact z) fun _ _ z => z)
theorem w_irng1 {g : Env → M (List D)} {Q : Itm → Sto → Prop} (w : wp (g σ) S (fun d S1 => wt (itRng1 d S1) fun it => Q it S1) E) : wp (iRng1' g σ) S Q E :=
  wp_bnd (w.imp (fun d S1 z => by obtain ⟨it, e, z⟩ := z; unfold wp upI; rw [e]; exact z) fun _ _ z => z)
theorem w_irng2 {g : Env → M (List D)} {Q : Itm → Sto → Prop} (w : wp (g σ) S (fun d S1 => wt (itRng2 d S1) fun it => Q it S1) E) : wp (iRng2' g σ) S Q E :=
  wp_bnd (w.imp (fun d S1 z => by obtain ⟨it, e, z⟩ := z; unfold wp upI; rw [e]; exact z) fun _ _ z => z)
theorem w_ienm {g : Env → M (List D)} {Q : Itm → Sto → Prop} (w : wp (g σ) S (fun d S1 => wt (itEnm d S1) fun it => Q it S1) E) : wp (iEnm g σ) S Q E :=
  wp_bnd (w.imp (fun d S1 z => by obtain ⟨it, e, z⟩ := z; unfold wp upI; rw [e]; exact z) fun _ _ z => z)
theorem w_ienmK {g : Env → M (List D)} {Q : Itm → Sto → Prop} (w : wp (g σ) S (fun d S1 => wt (itEnmK d S1) fun it => Q it S1) E) : wp (iEnmK g σ) S Q E :=
  wp_bnd (w.imp (fun d S1 z => by obtain ⟨it, e, z⟩ := z; unfold wp upI; rw [e]; exact z) fun _ _ z => z)
theorem w_izp {g : Env → M (List D)} {Q : Itm → Sto → Prop} (w : wp (g σ) S (fun d S1 => wt (itZip d S1) fun it => Q it S1) E) : wp (iZp g σ) S Q E :=
  wp_bnd (w.imp (fun d S1 z => by obtain ⟨it, e, z⟩ := z; unfold wp upI; rw [e]; exact z) fun _ _ z => z)
theorem ws_for {src : Env → M Itm} {t : Tg} {b : Sm} (h : wp (src σ) S (fun it S1 => wm (forL it t b (cnt it S1) 0 σ) S1 R) fun x S1 => R (.xc x) σ S1) : ws (sFor src t b) σ S R := wm_sE h
/-- what a turn's body is asked -/
def lp (I : Env → Sto → Prop) (R : Rs) : Rs := fun fl σ S => match fl with
  | .nx => I σ S
  | .ct => I σ S
  | .bk => R .nx σ S
  | .rt d => R (.rt d) σ S
  | .xc x => R (.xc x) σ S
/-- a for by its invariant: it yields xs in turn -/
theorem forL_inv {it : Itm} {t : Tg} {b : Sm} (xs : List D) (I : Nat → Env → Sto → Prop) (hy : ∀ i σ S, I i σ S → i ≤ xs.length → nxt it i S = some xs[i]?)
    (hs : ∀ i x σ S, xs[i]? = some x → I i σ S → wt (t x σ) fun σ1 => ws b σ1 S (lp (I (i + 1)) R)) (he : ∀ σ S, I xs.length σ S → R .nx σ S) :
    ∀ n i σ S, i ≤ xs.length → xs.length < i + n → I i σ S → wm (forL it t b n i σ) S R
  | 0, i, σ, S, hi, hn, h => by omega
  | n + 1, i, σ, S, hi, hn, h => by
    have e := hy i σ S h hi
    unfold wm forL
    rw [e]
    cases hx : xs[i]? with
    | none =>
      have hl : xs.length ≤ i := List.getElem?_eq_none_iff.mp hx
      have : i = xs.length := by omega
      subst this
      exact he σ S h
    | some x =>
      have hl : i < xs.length := by
        by_cases q : i < xs.length
        · exact q
        · rw [List.getElem?_eq_none (by omega)] at hx; cases hx
      obtain ⟨σ1, e1, w1⟩ := hs i x σ S hx h
      simp only [e1]
      unfold ws at w1
      cases z : b σ1 S with
      | ok p S1 =>
        obtain ⟨fl, σ2⟩ := p
        rw [z] at w1
        cases fl with
        | nx => exact forL_inv xs I hy hs he n (i + 1) σ2 S1 hl (by omega) w1
        | ct => exact forL_inv xs I hy hs he n (i + 1) σ2 S1 hl (by omega) w1
        | bk => exact w1
        | rt d => exact w1
        | xc x => exact w1
      | exc x S1 => rw [z] at w1; exact w1.elim
      | bad => rw [z] at w1; exact w1.elim
/-- over a tuple -/
theorem for_fix {t : Tg} {b : Sm} {xs : List D} (I : Nat → Env → Sto → Prop) (h0 : I 0 σ S)
    (hs : ∀ i x σ S, xs[i]? = some x → I i σ S → wt (t x σ) fun σ1 => ws b σ1 S (lp (I (i + 1)) R)) (he : ∀ σ S, I xs.length σ S → R .nx σ S) :
    wm (forL (.fix xs) t b (cnt (.fix xs) S) 0 σ) S R := forL_inv xs I (fun _ _ _ _ _ => rfl) hs he _ 0 σ S (Nat.zero_le _) (by simp only [cnt]; omega) h0
/-- over a list of the store, which stays -/
theorem for_lst {t : Tg} {b : Sm} {n : Nat} {xs : List D} (I : Nat → Env → Sto → Prop) (hl : ∀ i σ S, I i σ S → lstAt S n = some xs) (h0 : I 0 σ S)
    (hs : ∀ i x σ S, xs[i]? = some x → I i σ S → wt (t x σ) fun σ1 => ws b σ1 S (lp (I (i + 1)) R)) (he : ∀ σ S, I xs.length σ S → R .nx σ S) :
    wm (forL (.lst n) t b (cnt (.lst n) S) 0 σ) S R := forL_inv xs I (fun i σ S h _ => by simp only [nxt, hl i σ S h, Option.map_some]) hs he _ 0 σ S (Nat.zero_le _) (by simp only [cnt, hl 0 σ S h0, Option.getD_some]; omega) h0
def rngL (lo : Int) (n : Nat) : List D := (List.range n).map fun i => .int (lo + (i : Nat))
theorem rngL_len (lo : Int) (n : Nat) : (rngL lo n).length = n := by simp [rngL]
theorem rngL_get (lo : Int) (n i : Nat) : (rngL lo n)[i]? = if i < n then some (.int (lo + (i : Nat))) else none := by
  unfold rngL
  by_cases h : i < n
  · simp [h]
  · simp [h]
theorem nxt_rng {lo : Int} {n i : Nat} {S : Sto} : nxt (.rng lo n) i S = some (rngL lo n)[i]? := by
  rw [rngL_get]
  by_cases h : i < n
  · simp only [nxt, blt_t h, if_pos h]
  · simp only [nxt, blt_f h, if_neg h]
/-- over a range -/
theorem for_rng {t : Tg} {b : Sm} {lo : Int} {n : Nat} (I : Nat → Env → Sto → Prop) (h0 : I 0 σ S)
    (hs : ∀ (i : Nat) σ S, i < n → I i σ S → wt (t (.int (lo + i)) σ) fun σ1 => ws b σ1 S (lp (I (i + 1)) R)) (he : ∀ σ S, I n σ S → R .nx σ S) :
    wm (forL (.rng lo n) t b (cnt (.rng lo n) S) 0 σ) S R := by
  refine forL_inv (rngL lo n) I (fun _ _ _ _ _ => nxt_rng) ?_ (by rw [rngL_len]; exact he) _ 0 σ S (Nat.zero_le _) (by simp only [cnt, rngL_len]; omega) h0
  intro i x σ S e h
  rw [rngL_get] at e
  by_cases q : i < n
  · rw [if_pos q] at e
    cases e
    exact hs i σ S q h
  · rw [if_neg q] at e; cases e
theorem enumZ_get (xs : List D) (k : Int) (i : Nat) : (xs.zipIdx.map fun p => D.tup [.int (k + (p.2 : Nat)), p.1])[i]? = xs[i]?.map fun x => .tup [.int (k + (i : Nat)), x] := by
  rw [List.getElem?_map, List.getElem?_zipIdx]
  cases xs[i]? <;> simp
/-- over the pairs of a number and an item of a list of the store, which stays -/
theorem for_enm {t : Tg} {b : Sm} {n : Nat} {xs : List D} (I : Nat → Env → Sto → Prop) (hl : ∀ i σ S, I i σ S → lstAt S n = some xs) (h0 : I 0 σ S)
    (hs : ∀ (i : Nat) x σ S, xs[i]? = some x → I i σ S → wt (t (.tup [.int (i : Nat), x]) σ) fun σ1 => ws b σ1 S (lp (I (i + 1)) R)) (he : ∀ σ S, I xs.length σ S → R .nx σ S) :
    wm (forL (.enm n) t b (cnt (.enm n) S) 0 σ) S R := by
  have hlen : (xs.zipIdx.map fun p => D.tup [.int (0 + (p.2 : Nat)), p.1]).length = xs.length := by simp
  refine forL_inv (xs.zipIdx.map fun p => D.tup [.int (0 + (p.2 : Nat)), p.1]) I (fun i σ S h _ => ?_) ?_ (by rw [hlen]; exact he) _ 0 σ S (Nat.zero_le _) (by simp only [cnt, hl 0 σ S h0, Option.getD_some, hlen]; omega) h0
  · rw [enumZ_get]
    simp only [nxt, hl i σ S h, Option.map_some, Int.zero_add]
  · intro i x σ S e h
    rw [enumZ_get] at e
    cases q : xs[i]? with
    | none => rw [q] at e; cases e
    | some y =>
      rw [q] at e
      simp only [Option.map_some, Option.some.injEq, Int.zero_add] at e
      subst e
      exact hs i y σ S q h
/-! ### while -/
theorem wm_ret {p : Fl × Env} (h : R p.1 p.2 S) : wm (ret p) S R := h
theorem whL_inv {t : Env → M Bool} {b : Sm} (I : Env → Sto → Prop) (μ : Env → Sto → Nat)
    (hs : ∀ σ S, I σ S → wp (t σ) S (fun c S1 => wQ c (ws b σ S1 (lp (fun σ' S' => I σ' S' ∧ μ σ' S' < μ σ S) R)) (R .nx σ S1)) fun x S1 => R (.xc x) σ S1) :
    ∀ n σ S, μ σ S < n → I σ S → wm (whL t b n σ) S R
  | 0, σ, S, hn, h => by omega
  | n + 1, σ, S, hn, h => by
    unfold whL
    refine wm_sE ((hs σ S h).imp (fun c S1 z => ?_) fun _ _ z => z)
    cases c with
    | false => exact z
    | true =>
      have z1 : ws b σ S1 (lp (fun σ' S' => I σ' S' ∧ μ σ' S' < μ σ S) R) := z
      unfold ws at z1
      unfold wm
      dsimp only
      cases q : b σ S1 with
      | ok p S2 =>
        obtain ⟨fl, σ2⟩ := p
        rw [q] at z1
        cases fl with
        | nx => exact whL_inv I μ hs n σ2 S2 (by have := z1.2; omega) z1.1
        | ct => exact whL_inv I μ hs n σ2 S2 (by have := z1.2; omega) z1.1
        | bk => exact z1
        | rt d => exact z1
        | xc x => exact z1
      | exc x S2 => rw [q] at z1; exact z1.elim
      | bad => rw [q] at z1; exact z1.elim
theorem ws_while {n : Nat} {t : Env → M Bool} {b : Sm} (I : Env → Sto → Prop) (μ : Env → Sto → Nat) (h0 : I σ S) (hm : μ σ S < n)
    (hs : ∀ σ S, I σ S → wp (t σ) S (fun c S1 => wQ c (ws b σ S1 (lp (fun σ' S' => I σ' S' ∧ μ σ' S' < μ σ S) R)) (R .nx σ S1)) fun x S1 => R (.xc x) σ S1) : ws (sWhile n t b) σ S R := whL_inv I μ hs n σ S hm h0
/-! ### list comprehensions -/
def wl (it : Itm) (t : Tg) (tt : Env → M Bool) (f : Env → M D) (σ : Env) (S : Sto) (Q : D → Sto → Prop) : Prop := match lcL it t tt f S.n σ (cnt it S) 0 (S.push (.lst [])) with
  | .ok _ S' => Q (.loc S.n) S'
  | _ => False
theorem w_lc {vs : List Nat} {src : Env → M Itm} {t : Tg} {tt : Env → M Bool} {f : Env → M D} (w : wp (src σ) S (fun it S1 => wl it t tt f (wipeE σ vs) S1 Q) E) : wp (eLc vs src t tt f σ) S Q E := by
  refine wp_bnd (w.imp (fun it S1 z => ?_) fun _ _ z => z)
  unfold wl at z
  unfold wp
  dsimp only
  cases q : lcL it t tt f S1.n (wipeE σ vs) (cnt it S1) 0 (S1.push (.lst [])) with
  | ok u S2 => rw [q] at z; exact z
  | exc x S2 => rw [q] at z; exact z.elim
  | bad => rw [q] at z; exact z.elim
/-- by its invariant: I i acc S, the new list at n holding acc -/
theorem lcL_inv {it : Itm} {t : Tg} {tt : Env → M Bool} {f : Env → M D} {n : Nat} {P : Sto → Prop} (xs : List D) (I : Nat → List D → Sto → Prop) (hy : ∀ i acc S, I i acc S → i ≤ xs.length → nxt it i S = some xs[i]?) (hz : xs.length ≤ sizeLine)
    (hs : ∀ i x acc S, xs[i]? = some x → I i acc S → S.get n = some (.lst acc) → wt (t x σ) fun σ1 =>
      wp (tt σ1) S (fun c S1 => wQ c (wp (f σ1) S1 (fun y S2 => S2.get n = some (.lst acc) ∧ ((S2.set n (.lst (acc ++ [y]))).get n = some (.lst (acc ++ [y])) → I (i + 1) (acc ++ [y]) (S2.set n (.lst (acc ++ [y]))))) noX) (S1.get n = some (.lst acc) ∧ I (i + 1) acc S1)) noX)
    (he : ∀ acc S, I xs.length acc S → S.get n = some (.lst acc) → P S) :
    ∀ k i acc S, i ≤ xs.length → xs.length < i + k → acc.length ≤ i → I i acc S → S.get n = some (.lst acc) → ∃ u S', lcL it t tt f n σ k i S = .ok u S' ∧ P S'
  | 0, i, acc, S, hi, hk, ha, h, g => by omega
  | k + 1, i, acc, S, hi, hk, ha, h, g => by
    have e := hy i acc S h hi
    unfold lcL
    rw [e]
    cases hx : xs[i]? with
    | none =>
      have hl : xs.length ≤ i := List.getElem?_eq_none_iff.mp hx
      have : i = xs.length := by omega
      subst this
      exact ⟨(), S, rfl, he acc S h g⟩
    | some x =>
      have hl : i < xs.length := by
        by_cases q : i < xs.length
        · exact q
        · rw [List.getElem?_eq_none (by omega)] at hx; cases hx
      obtain ⟨σ1, e1, w1⟩ := hs i x acc S hx h g
      obtain ⟨c, S1, e2, w2⟩ := w1.ok
      simp only [e1, e2]
      cases c with
      | false => exact lcL_inv xs I hy hz hs he k (i + 1) acc S1 hl (by omega) (by omega) w2.2 w2.1
      | true =>
        have w3 : wp (f σ1) S1 _ noX := w2
        obtain ⟨y, S2, e3, g2, w4⟩ := w3.ok
        have e4 : Nat.blt acc.length sizeLine = true := blt_t (by omega)
        simp only [e3, g2, e4]
        exact lcL_inv xs I hy hz hs he k (i + 1) (acc ++ [y]) _ hl (by omega) (by simp; omega) (w4 (Sto.get_set g2)) (Sto.get_set g2)
theorem lc_inv {it : Itm} {t : Tg} {tt : Env → M Bool} {f : Env → M D} (xs : List D) (I : Nat → List D → Sto → Prop) (hy : ∀ i acc S, I i acc S → i ≤ xs.length → nxt it i S = some xs[i]?) (hc : cnt it S = xs.length + 1) (hz : xs.length ≤ sizeLine) (h0 : I 0 [] (S.push (.lst [])))
    (hs : ∀ i x acc S1, xs[i]? = some x → I i acc S1 → S1.get S.n = some (.lst acc) → wt (t x σ) fun σ1 =>
      wp (tt σ1) S1 (fun c S1 => wQ c (wp (f σ1) S1 (fun y S2 => S2.get S.n = some (.lst acc) ∧ ((S2.set S.n (.lst (acc ++ [y]))).get S.n = some (.lst (acc ++ [y])) → I (i + 1) (acc ++ [y]) (S2.set S.n (.lst (acc ++ [y]))))) noX) (S1.get S.n = some (.lst acc) ∧ I (i + 1) acc S1)) noX)
    (he : ∀ acc S1, I xs.length acc S1 → S1.get S.n = some (.lst acc) → Q (.loc S.n) S1) : wl it t tt f σ S Q := by
  obtain ⟨u, S', e, p⟩ := lcL_inv (P := Q (.loc S.n)) xs I hy hz hs he (cnt it S) 0 [] (S.push (.lst [])) (Nat.zero_le _) (by omega) (Nat.zero_le _) h0 (Sto.get_push _ _)
  unfold wl
  rw [e]
  exact p
/-- of values alone: each item's test and value are told, the store grows -/
theorem lc_pure {it : Itm} {t : Tg} {tt : Env → M Bool} {f : Env → M D} (xs : List D) (p : D → Bool) (g : D → D) (hy : ∀ i S1, Gr S S1 → i ≤ xs.length → nxt it i S1 = some xs[i]?) (hc : cnt it S = xs.length + 1) (hz : xs.length ≤ sizeLine)
    (hs : ∀ (i : Nat) x S1, xs[i]? = some x → Gr S S1 → wt (t x σ) fun σ1 => wp (tt σ1) S1 (fun c S2 => c = p x ∧ Gr S1 S2 ∧ (p x = true → wp (f σ1) S2 (fun y S3 => y = g x ∧ Gr S2 S3) noX)) noX)
    (he : ∀ S1, Gr S S1 → S.n < S1.n → S1.get S.n = some (.lst ((xs.filter p).map g)) → Q (.loc S.n) S1) : wl it t tt f σ S Q := by
  refine lc_inv xs (fun i acc S1 => acc = ((xs.take i).filter p).map g ∧ Gr S S1 ∧ S.n < S1.n) (fun i acc S1 h hi => hy i S1 h.2.1 hi) hc hz ⟨rfl, (Gx.refl [] S).push _, by simp⟩ ?_ ?_
  · intro i x acc S1 hx h g1
    obtain ⟨h1, h2, h3⟩ := h
    obtain ⟨σ1, e1, w1⟩ := hs i x S1 hx h2
    have hl : i < xs.length := by
      by_cases q : i < xs.length
      · exact q
      · rw [List.getElem?_eq_none (by omega)] at hx; cases hx
    have htk : xs.take (i + 1) = xs.take i ++ [x] := by
      rw [List.take_succ, hx]; rfl
    refine ⟨σ1, e1, w1.use fun c S2 z => ?_⟩
    obtain ⟨rfl, gr, w2⟩ := z
    refine wQ_c (fun hp => ?_) (fun hp => ⟨gr.get g1, ?_, h2.trans gr, Nat.lt_of_lt_of_le h3 gr.le⟩)
    · refine (w2 hp).use fun y S3 z => ?_
      obtain ⟨rfl, gr3⟩ := z
      have g3 := gr3.get (gr.get g1)
      refine ⟨g3, fun _ => ⟨?_, ?_, ?_⟩⟩
      · rw [htk, List.filter_append, List.map_append, h1]
        simp [hp]
      · exact ((h2.trans gr).trans gr3).set (.inr (Nat.le_refl _)) (Sto.lt_of g3) _
      · exact Nat.lt_of_lt_of_le h3 (Nat.le_trans gr.le gr3.le)
    · rw [htk, List.filter_append, List.map_append, h1]
      simp [hp]
  · intro acc S1 h g1
    obtain ⟨h1, h2, h3⟩ := h
    rw [List.take_length] at h1
    rw [h1] at g1
    exact he S1 h2 h3 g1
theorem lc_fix {t : Tg} {tt : Env → M Bool} {f : Env → M D} {xs : List D} (p : D → Bool) (g : D → D) (hz : xs.length ≤ sizeLine)
    (hs : ∀ (i : Nat) x S1, xs[i]? = some x → Gr S S1 → wt (t x σ) fun σ1 => wp (tt σ1) S1 (fun c S2 => c = p x ∧ Gr S1 S2 ∧ (p x = true → wp (f σ1) S2 (fun y S3 => y = g x ∧ Gr S2 S3) noX)) noX)
    (he : ∀ S1, Gr S S1 → S.n < S1.n → S1.get S.n = some (.lst ((xs.filter p).map g)) → Q (.loc S.n) S1) : wl (.fix xs) t tt f σ S Q := lc_pure xs p g (fun _ _ _ _ => rfl) rfl hz hs he
theorem lc_rng {t : Tg} {tt : Env → M Bool} {f : Env → M D} {lo : Int} {n : Nat} (p : D → Bool) (g : D → D) (hz : n ≤ sizeLine)
    (hs : ∀ (i : Nat) S1, i < n → Gr S S1 → wt (t (.int (lo + i)) σ) fun σ1 => wp (tt σ1) S1 (fun c S2 => c = p (.int (lo + i)) ∧ Gr S1 S2 ∧ (p (.int (lo + i)) = true → wp (f σ1) S2 (fun y S3 => y = g (.int (lo + i)) ∧ Gr S2 S3) noX)) noX)
    (he : ∀ S1, Gr S S1 → S.n < S1.n → S1.get S.n = some (.lst (((rngL lo n).filter p).map g)) → Q (.loc S.n) S1) : wl (.rng lo n) t tt f σ S Q := by
  refine lc_pure (rngL lo n) p g (fun _ _ _ _ => nxt_rng) (by simp only [cnt, rngL_len]) (by rw [rngL_len]; exact hz) ?_ he
  intro i x S1 hx gr
  rw [rngL_get] at hx
  by_cases q : i < n
  · rw [if_pos q] at hx; cases hx
    exact hs i S1 q gr
  · rw [if_neg q] at hx; cases hx
theorem lc_lst {t : Tg} {tt : Env → M Bool} {f : Env → M D} {n : Nat} {xs : List D} (p : D → Bool) (g : D → D) (hl : S.get n = some (.lst xs)) (hz : xs.length ≤ sizeLine)
    (hs : ∀ (i : Nat) x S1, xs[i]? = some x → Gr S S1 → wt (t x σ) fun σ1 => wp (tt σ1) S1 (fun c S2 => c = p x ∧ Gr S1 S2 ∧ (p x = true → wp (f σ1) S2 (fun y S3 => y = g x ∧ Gr S2 S3) noX)) noX)
    (he : ∀ S1, Gr S S1 → S.n < S1.n → S1.get S.n = some (.lst ((xs.filter p).map g)) → Q (.loc S.n) S1) : wl (.lst n) t tt f σ S Q := by
  have key : ∀ S1, Gr S S1 → lstAt S1 n = some xs := fun S1 gr => by unfold lstAt; rw [gr.get hl]
  exact lc_pure xs p g (fun i S1 gr _ => by simp only [nxt, key S1 gr, Option.map_some]) (by simp only [cnt, key S (Gx.refl [] S), Option.getD_some]) hz hs he
end
/-! ### list comprehensions over things that are told by a function -/
section
variable {α : Type} {S : Sto} {σ : Env} {Q : D → Sto → Prop}
theorem mapE {as : List α} {e : α → D} {i : Nat} {x : D} (h : (as.map e)[i]? = some x) : ∃ a, as[i]? = some a ∧ a ∈ as ∧ x = e a := by
  rw [List.getElem?_map] at h
  cases q : as[i]? with
  | none => rw [q] at h; cases h
  | some a =>
    rw [q] at h
    exact ⟨a, rfl, List.mem_of_getElem? q, (Option.some.inj h).symm⟩
theorem lc_ty {it : Itm} {t : Tg} {tt : Env → M Bool} {f : Env → M D} (as : List α) (e : α → D) (p : α → Bool) (g : α → D) (hy : ∀ i S1, Gr S S1 → nxt it i S1 = some (as.map e)[i]?) (hc : cnt it S = as.length + 1) (hz : as.length ≤ sizeLine)
    (hs : ∀ a ∈ as, ∀ S1, Gr S S1 → wt (t (e a) σ) fun σ1 => wp (tt σ1) S1 (fun c S2 => c = p a ∧ Gr S1 S2 ∧ (p a = true → wp (f σ1) S2 (fun y S3 => y = g a ∧ Gr S2 S3) noX)) noX)
    (he : ∀ S1, Gr S S1 → S.n < S1.n → S1.get S.n = some (.lst ((as.filter p).map g)) → Q (.loc S.n) S1) : wl it t tt f σ S Q := by
  refine lc_inv (as.map e) (fun i acc S1 => acc = ((as.take i).filter p).map g ∧ Gr S S1 ∧ S.n < S1.n) (fun i acc S1 h hi => hy i S1 h.2.1) (by rw [hc, List.length_map]) (by rw [List.length_map]; exact hz) ⟨rfl, (Gx.refl [] S).push _, by simp⟩ ?_ ?_
  · intro i x acc S1 hx h g1
    obtain ⟨h1, h2, h3⟩ := h
    obtain ⟨a, ha, hm, rfl⟩ := mapE hx
    obtain ⟨σ1, e1, w1⟩ := hs a hm S1 h2
    have htk : as.take (i + 1) = as.take i ++ [a] := by
      rw [List.take_succ, ha]; rfl
    refine ⟨σ1, e1, w1.use fun c S2 z => ?_⟩
    obtain ⟨rfl, gr, w2⟩ := z
    refine wQ_c (fun hp => ?_) (fun hp => ⟨gr.get g1, ?_, h2.trans gr, Nat.lt_of_lt_of_le h3 gr.le⟩)
    · refine (w2 hp).use fun y S3 z => ?_
      obtain ⟨rfl, gr3⟩ := z
      have g3 := gr3.get (gr.get g1)
      refine ⟨g3, fun _ => ⟨?_, ?_, ?_⟩⟩
      · rw [htk, List.filter_append, List.map_append, h1]
        simp [hp]
      · exact ((h2.trans gr).trans gr3).set (.inr (Nat.le_refl _)) (Sto.lt_of g3) _
      · exact Nat.lt_of_lt_of_le h3 (Nat.le_trans gr.le gr3.le)
    · rw [htk, List.filter_append, List.map_append, h1]
      simp [hp]
  · intro acc S1 h g1
    obtain ⟨h1, h2, h3⟩ := h
    rw [List.length_map, List.take_length] at h1
    rw [h1] at g1
    exact he S1 h2 h3 g1
theorem nxt_lst {n i : Nat} {xs : List D} {S1 : Sto} (hl : S.get n = some (.lst xs)) (gr : Gr S S1) : nxt (.lst n) i S1 = some xs[i]? := by
  have : lstAt S1 n = some xs := by unfold lstAt; rw [gr.get hl]
  simp only [nxt, this, Option.map_some]
theorem cnt_lst {n : Nat} {xs : List D} (hl : S.get n = some (.lst xs)) : cnt (.lst n) S = xs.length + 1 := by
  have : lstAt S n = some xs := by unfold lstAt; rw [hl]
  simp only [cnt, this, Option.getD_some]
theorem rngL_map (lo : Int) (n : Nat) : rngL lo n = (List.range n).map fun (i : Nat) => D.int (lo + i) := rfl
/-- with a test -/
theorem lc_F {t : Tg} {tt : Env → M Bool} {f : Env → M D} {as : List α} {e : α → D} (p : α → Bool) (g : α → D) (hz : as.length ≤ sizeLine)
    (hs : ∀ a ∈ as, ∀ S1, Gr S S1 → wt (t (e a) σ) fun σ1 => wp (tt σ1) S1 (fun c S2 => c = p a ∧ Gr S1 S2 ∧ (p a = true → wp (f σ1) S2 (fun y S3 => y = g a ∧ Gr S2 S3) noX)) noX)
    (he : ∀ S1, Gr S S1 → S.n < S1.n → S1.get S.n = some (.lst ((as.filter p).map g)) → Q (.loc S.n) S1) : wl (.fix (as.map e)) t tt f σ S Q := lc_ty as e p g (fun _ _ _ => rfl) (by simp only [cnt, List.length_map]) hz hs he
theorem lc_L {t : Tg} {tt : Env → M Bool} {f : Env → M D} {as : List α} {e : α → D} {n : Nat} (hl : S.get n = some (.lst (as.map e))) (p : α → Bool) (g : α → D) (hz : as.length ≤ sizeLine)
    (hs : ∀ a ∈ as, ∀ S1, Gr S S1 → wt (t (e a) σ) fun σ1 => wp (tt σ1) S1 (fun c S2 => c = p a ∧ Gr S1 S2 ∧ (p a = true → wp (f σ1) S2 (fun y S3 => y = g a ∧ Gr S2 S3) noX)) noX)
    (he : ∀ S1, Gr S S1 → S.n < S1.n → S1.get S.n = some (.lst ((as.filter p).map g)) → Q (.loc S.n) S1) : wl (.lst n) t tt f σ S Q := lc_ty as e p g (fun _ _ gr => nxt_lst hl gr) (by rw [cnt_lst hl, List.length_map]) hz hs he
theorem lc_R {t : Tg} {tt : Env → M Bool} {f : Env → M D} {lo : Int} {n : Nat} (p : Nat → Bool) (g : Nat → D) (hz : n ≤ sizeLine)
    (hs : ∀ (i : Nat), i < n → ∀ S1, Gr S S1 → wt (t (.int (lo + i)) σ) fun σ1 => wp (tt σ1) S1 (fun c S2 => c = p i ∧ Gr S1 S2 ∧ (p i = true → wp (f σ1) S2 (fun y S3 => y = g i ∧ Gr S2 S3) noX)) noX)
    (he : ∀ S1, Gr S S1 → S.n < S1.n → S1.get S.n = some (.lst (((List.range n).filter p).map g)) → Q (.loc S.n) S1) : wl (.rng lo n) t tt f σ S Q :=
  lc_ty (List.range n) (fun i => .int (lo + (i : Nat))) p g (fun _ _ _ => nxt_rng) (by simp only [cnt, List.length_range]) (by rw [List.length_range]; exact hz) (fun a ha => hs a (List.mem_range.mp ha)) he
/-- without a test -/
theorem lc_yes {it : Itm} {t : Tg} {f : Env → M D} (as : List α) (e : α → D) (g : α → D) (hy : ∀ i S1, Gr S S1 → nxt it i S1 = some (as.map e)[i]?) (hc : cnt it S = as.length + 1) (hz : as.length ≤ sizeLine)
    (hs : ∀ a ∈ as, ∀ S1, Gr S S1 → wt (t (e a) σ) fun σ1 => wp (f σ1) S1 (fun y S3 => y = g a ∧ Gr S1 S3) noX)
    (he : ∀ S1, Gr S S1 → S.n < S1.n → S1.get S.n = some (.lst (as.map g)) → Q (.loc S.n) S1) : wl it t tYesM f σ S Q := by
  refine lc_ty as e (fun _ => true) g hy hc hz (fun a ha S1 gr => ?_) (fun S1 g1 g2 g3 => he S1 g1 g2 (by rw [g3, List.filter_eq_self.mpr (fun _ _ => rfl)]))
  obtain ⟨σ1, e1, w⟩ := hs a ha S1 gr
  exact ⟨σ1, e1, w_tY ⟨rfl, Gx.refl _ _, fun _ => w⟩⟩
theorem lc_F1 {t : Tg} {f : Env → M D} {as : List α} {e : α → D} (g : α → D) (hz : as.length ≤ sizeLine)
    (hs : ∀ a ∈ as, ∀ S1, Gr S S1 → wt (t (e a) σ) fun σ1 => wp (f σ1) S1 (fun y S3 => y = g a ∧ Gr S1 S3) noX)
    (he : ∀ S1, Gr S S1 → S.n < S1.n → S1.get S.n = some (.lst (as.map g)) → Q (.loc S.n) S1) : wl (.fix (as.map e)) t tYesM f σ S Q := lc_yes as e g (fun _ _ _ => rfl) (by simp only [cnt, List.length_map]) hz hs he
theorem lc_L1 {t : Tg} {f : Env → M D} {as : List α} {e : α → D} {n : Nat} (hl : S.get n = some (.lst (as.map e))) (g : α → D) (hz : as.length ≤ sizeLine)
    (hs : ∀ a ∈ as, ∀ S1, Gr S S1 → wt (t (e a) σ) fun σ1 => wp (f σ1) S1 (fun y S3 => y = g a ∧ Gr S1 S3) noX)
    (he : ∀ S1, Gr S S1 → S.n < S1.n → S1.get S.n = some (.lst (as.map g)) → Q (.loc S.n) S1) : wl (.lst n) t tYesM f σ S Q := lc_yes as e g (fun _ _ gr => nxt_lst hl gr) (by rw [cnt_lst hl, List.length_map]) hz hs he
theorem lc_R1 {t : Tg} {f : Env → M D} {lo : Int} {n : Nat} (g : Nat → D) (hz : n ≤ sizeLine)
    (hs : ∀ (i : Nat), i < n → ∀ S1, Gr S S1 → wt (t (.int (lo + i)) σ) fun σ1 => wp (f σ1) S1 (fun y S3 => y = g i ∧ Gr S1 S3) noX)
    (he : ∀ S1, Gr S S1 → S.n < S1.n → S1.get S.n = some (.lst ((List.range n).map g)) → Q (.loc S.n) S1) : wl (.rng lo n) t tYesM f σ S Q :=
  lc_yes (List.range n) (fun i => .int (lo + (i : Nat))) g (fun _ _ _ => nxt_rng) (by simp only [cnt, List.length_range]) (by rw [List.length_range]; exact hz) (fun a ha => hs a (List.mem_range.mp ha)) he
theorem blsOf_map (bs : List Bool) : blsOf (bs.map .bl) = some bs := by
  induction bs with
  | nil => rfl
  | cons b bs ih => simp only [List.map_cons, blsOf, ih, Option.map_some]
theorem intsOf_map (bs : List Int) : intsOf (bs.map .int) = some bs := by
  induction bs with
  | nil => rfl
  | cons b bs ih => simp only [List.map_cons, intsOf, ih, Option.map_some]
theorem z_allM {n : Nat} {as : List α} {f : α → Bool} (g : S.get n = some (.lst (as.map fun a => .bl (f a)))) (q : Q (.bl (as.all f)) S) : wo (fAll [.loc n] S) Q := by
  have e : (as.map fun a => D.bl (f a)) = (as.map f).map .bl := by rw [List.map_map]; rfl
  rw [e] at g
  refine wo_of (d := .bl (as.all f)) ?_ q
  simp only [fAll, onLst, lstAt, g, blsOf_map, Option.map_some, List.all_map]
  rfl
theorem z_anyM {n : Nat} {as : List α} {f : α → Bool} (g : S.get n = some (.lst (as.map fun a => .bl (f a)))) (q : Q (.bl (as.any f)) S) : wo (fAny [.loc n] S) Q := by
  have e : (as.map fun a => D.bl (f a)) = (as.map f).map .bl := by rw [List.map_map]; rfl
  rw [e] at g
  refine wo_of (d := .bl (as.any f)) ?_ q
  simp only [fAny, onLst, lstAt, g, blsOf_map, Option.map_some, List.any_map]
  rfl
end
/-! ### loops over things that are told by a function -/
section
variable {α : Type} {S : Sto} {σ : Env} {R : Rs}
theorem for_F {t : Tg} {b : Sm} {as : List α} {e : α → D} (I : Nat → Env → Sto → Prop) (h0 : I 0 σ S)
    (hs : ∀ i a σ S, as[i]? = some a → I i σ S → wt (t (e a) σ) fun σ1 => ws b σ1 S (lp (I (i + 1)) R)) (he : ∀ σ S, I as.length σ S → R .nx σ S) :
    wm (forL (.fix (as.map e)) t b (cnt (.fix (as.map e)) S) 0 σ) S R := by
  refine for_fix I h0 (fun i x σ S hx h => ?_) (by rw [List.length_map]; exact he)
  obtain ⟨a, ha, _, rfl⟩ := mapE hx
  exact hs i a σ S ha h
theorem for_L {t : Tg} {b : Sm} {n : Nat} {as : List α} {e : α → D} (I : Nat → Env → Sto → Prop) (hl : ∀ i σ S, I i σ S → S.get n = some (.lst (as.map e))) (h0 : I 0 σ S)
    (hs : ∀ i a σ S, as[i]? = some a → I i σ S → wt (t (e a) σ) fun σ1 => ws b σ1 S (lp (I (i + 1)) R)) (he : ∀ σ S, I as.length σ S → R .nx σ S) :
    wm (forL (.lst n) t b (cnt (.lst n) S) 0 σ) S R := by
  refine for_lst (xs := as.map e) I (fun i σ S h => by unfold lstAt; rw [hl i σ S h]) h0 (fun i x σ S hx h => ?_) (by rw [List.length_map]; exact he)
  obtain ⟨a, ha, _, rfl⟩ := mapE hx
  exact hs i a σ S ha h
end
theorem enum_ty {α : Type} (as : List α) (e : α → D) (k : Int) : ((as.map e).zipIdx.map fun p => D.tup [.int (k + (p.2 : Nat)), p.1]) = as.zipIdx.map fun p => D.tup [.int (k + (p.2 : Nat)), e p.1] := by
  rw [List.zipIdx_map, List.map_map]
  rfl
/-! ### enumerated; handlers; a lambda handed over -/
section
variable {α : Type} {S : Sto} {σ : Env} {R : Rs} {Q : D → Sto → Prop} {E : Xc → Sto → Prop}
theorem for_E {t : Tg} {b : Sm} {as : List α} {e : α → D} {k : Int} (I : Nat → Env → Sto → Prop) (h0 : I 0 σ S)
    (hs : ∀ (i : Nat) a σ S, as[i]? = some a → I i σ S → wt (t (.tup [.int (k + i), e a]) σ) fun σ1 => ws b σ1 S (lp (I (i + 1)) R)) (he : ∀ σ S, I as.length σ S → R .nx σ S) :
    wm (forL (.fix ((as.map e).zipIdx.map fun p => D.tup [.int (k + (p.2 : Nat)), p.1])) t b (cnt (.fix ((as.map e).zipIdx.map fun p => D.tup [.int (k + (p.2 : Nat)), p.1])) S) 0 σ) S R := by
  refine for_fix I h0 (fun i x σ S hx h => ?_) (by rw [List.length_map, List.length_zipIdx, List.length_map]; exact he)
  rw [enumZ_get] at hx
  cases q : (as.map e)[i]? with
  | none => rw [q] at hx; cases hx
  | some y =>
    rw [q] at hx
    obtain ⟨a, ha, _, rfl⟩ := mapE q
    cases hx
    exact hs i a σ S ha h
theorem runH_f {sub : Str → Str → Option Bool} {x : Xc} {h : Hd} {r : List Hd} (e : sub x.cls h.c = some false) (w : wm (runH sub x r σ) S R) : wm (runH sub x (h :: r) σ) S R := by
  unfold wm at w ⊢
  simp only [runH, e]
  exact w
/-- a clause taken -/
def rh (i : Nat) (R : Rs) : Rs := fun fl σ S => match fl with
  | .nx => R .nx (σ.set i none) S
  | .bk => R .bk (σ.set i none) S
  | .ct => R .ct (σ.set i none) S
  | .rt d => R (.rt d) σ S
  | .xc _ => False
theorem rh_nx {i : Nat} (h : R .nx (σ.set i none) S) : rh i R .nx σ S := h
theorem rh_rt {i : Nat} {d : D} (h : R (.rt d) σ S) : rh i R (.rt d) σ S := h
theorem runH_t {sub : Str → Str → Option Bool} {x : Xc} {h : Hd} {r : List Hd} (e : sub x.cls h.c = some true) (w : ws h.g (σ.set h.i (some (.xc x.cls x.ns x.ds))) S (rh h.i R)) : wm (runH sub x (h :: r) σ) S R := by
  unfold ws at w
  unfold wm
  simp only [runH, e]
  cases z : h.g (σ.set h.i (some (.xc x.cls x.ns x.ds))) S with
  | ok p S1 =>
    obtain ⟨fl, σ1⟩ := p
    rw [z] at w
    cases fl <;> exact w
  | exc x S1 => rw [z] at w; exact w.elim
  | bad => rw [z] at w; exact w.elim
theorem runH_n {sub : Str → Str → Option Bool} {x : Xc} (w : R (.xc x) σ S) : wm (runH sub x [] σ) S R := w
theorem w_lam {len : Nat} {b : LBody} {f : Env → M D} (w : ws (b fun _ => f σ) (some .non :: List.replicate (len - 1) none) S (fz Q E)) : wp (eLam len b f σ) S Q E := by
  unfold ws at w
  unfold wp eLam runL
  cases z : b (fun _ => f σ) (some .non :: List.replicate (len - 1) none) S with
  | ok p S1 =>
    obtain ⟨fl, σ1⟩ := p
    rw [z] at w
    cases fl <;> exact w
  | exc x S1 => rw [z] at w; exact w.elim
  | bad => rw [z] at w; exact w.elim
end
/-! ### slices -/
theorem cut_from {α : Type} (xs : List α) (k : Nat) : cutD xs (some (k : Int)) none = xs.drop k := by
  unfold cutD
  rw [HT.sIx_nat, HT.sIx_none]
  by_cases h : k ≤ xs.length
  · rw [Nat.min_eq_left h, List.take_of_length_le (by simp)]
  · rw [Nat.min_eq_right (by omega), List.drop_eq_nil_of_le (Nat.le_refl _), List.drop_eq_nil_of_le (by omega), List.take_nil]
theorem cut_to {α : Type} (xs : List α) (k : Nat) : cutD xs none (some (k : Int)) = xs.take k := by
  unfold cutD
  rw [HT.sIx_nat, HT.sIx_none, List.drop_zero, Nat.sub_zero]
  by_cases h : k ≤ xs.length
  · rw [Nat.min_eq_left h]
  · rw [Nat.min_eq_right (by omega), List.take_of_length_le (Nat.le_refl _), List.take_of_length_le (by omega)]
theorem cut_one {α : Type} (xs : List α) : cutD xs (some 1) none = xs.tail := by
  rw [show (1 : Int) = ((1 : Nat) : Int) from rfl, cut_from]; cases xs <;> rfl
theorem atD_nat {α : Type} (xs : List α) (i : Nat) : atD xs (i : Int) = xs[i]? := by
  unfold atD ixN
  rw [if_pos (by omega)]
  by_cases h : i < xs.length
  · rw [if_pos (by omega)]; simp
  · rw [if_neg (by omega), List.getElem?_eq_none (by omega)]; rfl
theorem ixN_nat {n i : Nat} (h : i < n) : ixN n (i : Int) = some i := by
  unfold ixN
  rw [if_pos (by omega), if_pos (by omega)]; simp
theorem atD_int {α : Type} (xs : List α) {i : Int} (h : 0 ≤ i) : atD xs i = xs[i.toNat]? := by
  rw [← atD_nat, Int.toNat_of_nonneg h]
theorem ixN_last {n : Nat} (h : 0 < n) : ixN n (-1) = some (n - 1) := by
  unfold ixN
  rw [if_neg (by omega), if_pos (by omega)]
  congr 1
  omega
theorem atD_last {α : Type} {xs : List α} (h : xs ≠ []) : atD xs (-1) = xs.getLast? := by
  have hl : 0 < xs.length := List.length_pos_iff.mpr h
  unfold atD
  rw [ixN_last hl, Option.bind_some, List.getLast?_eq_getElem?]
theorem set_last {α : Type} {xs : List α} {v : α} (h : xs ≠ []) : xs.set (xs.length - 1) v = xs.dropLast ++ [v] := by
  obtain ⟨l, a, rfl⟩ : ∃ l a, xs = l ++ [a] := ⟨xs.dropLast, xs.getLast h, (List.dropLast_concat_getLast h).symm⟩
  simp
/-! ### dicts; items stored -/
section
variable {S : Sto} {σ : Env} {Q : D → Sto → Prop} {E : Xc → Sto → Prop}
theorem w_pnil {Q : List (Key × D) → Sto → Prop} (h : Q [] S) : wp (pM [] σ) S Q E := h
theorem w_pcons {fk fv : Env → M D} {r : Prs} {Q : List (Key × D) → Sto → Prop} (w : wp (fk σ) S (fun k S1 => wp (fv σ) S1 (fun v S2 => wp (pM r σ) S2 (fun ps S3 => wt (keyOf k) fun kk => Q ((kk, v) :: ps) S3) E) E) E) : wp (pM ((fk, fv) :: r) σ) S Q E := by
  unfold pM
  refine wp_bnd (w.imp (fun k S1 z => wp_bnd (z.imp (fun v S2 z => wp_bnd (z.imp (fun ps S3 z => ?_) fun _ _ z => z)) fun _ _ z => z)) fun _ _ z => z)
  obtain ⟨kk, e, z⟩ := z
  simp only [e]
  exact z
theorem w_dict {prs : Prs} (w : wp (pM prs σ) (S.push (.dK [])) (fun kvs S2 => S2.get S.n = some (.dK []) ∧ kvs.length ≤ 15 ∧ Q (.loc S.n) (S2.set S.n (.dK (mergeD [] kvs)))) E) : wp (eDict prs σ) S Q E := by
  unfold wp at w ⊢
  unfold eDict
  cases z : pM prs σ (S.push (.dK [])) with
  | ok kvs S2 =>
    rw [z] at w
    obtain ⟨h1, h2, h3⟩ := w
    simp only [h1, Nat.ble_eq_true_of_le h2]
    exact h3
  | exc x S2 => rw [z] at w; exact w
  | bad => rw [z] at w; exact w
theorem z_putL {n j : Nat} {xs : List D} {i : Int} {v : D} {P : Sto → Prop} (g : S.get n = some (.lst xs)) (h : ixN xs.length i = some j) (q : P (S.set n (.lst (xs.set j v)))) : wt (fPut (.loc n) (.int i) v S) P := by
  refine ⟨_, ?_, q⟩
  simp only [fPut, g, h]
theorem z_putK {n : Nat} {kvs : List (Key × D)} {z : Str} {v : D} {P : Sto → Prop} (g : S.get n = some (.dK kvs)) (h : kvs.length < sizeLine) (q : P (S.set n (.dK (putD kvs (Sum.inr z) v)))) : wt (fPut (.loc n) (.str z) v S) P := by
  refine ⟨_, ?_, q⟩
  simp only [fPut, g, keyOf, blt_t h]
theorem z_popAt {n : Nat} {y : D} {xs : List D} (g : S.get n = some (.lst (y :: xs))) (q : Q y (S.set n (.lst xs))) : wo (fPopAt (.loc n) [.int 0] S) Q := by
  refine wo_of ?_ q
  have e : ixN (y :: xs).length 0 = some 0 := ixN_nat (i := 0) (by simp)
  simp only [fPopAt, g, e]
  rfl
end
/-! ### lists walked -/
section
variable {S : Sto} {Q : D → Sto → Prop}
theorem z_itL {n : Nat} {xs : List D} {P : Itm → Prop} (g : S.get n = some (.lst xs)) (q : P (.lst n)) : wt (itOf (.loc n) S) P := by
  refine ⟨_, ?_, q⟩
  simp only [itOf, lstAt, g, Option.map_some]
theorem z_itE {n : Nat} {xs : List D} {P : Itm → Prop} (g : S.get n = some (.lst xs)) (q : P (.enm n)) : wt (itEnm [.loc n] S) P := by
  refine ⟨_, ?_, q⟩
  simp only [itEnm, lstAt, g, Option.map_some]
theorem z_itR {j : Int} {P : Itm → Prop} (h : -(2 ^ 62) ≤ j ∧ j < 2 ^ 62) (q : P (.rng 0 j.toNat)) : wt (itRng1 [.int j] S) P := by
  refine ⟨_, ?_, q⟩
  simp only [itRng1]
  rw [if_pos h]
theorem z_itR2 {i j : Int} {P : Itm → Prop} (h : -(2 ^ 62) ≤ i ∧ i < 2 ^ 62 ∧ -(2 ^ 62) ≤ j ∧ j < 2 ^ 62) (q : P (.rng i (j - i).toNat)) : wt (itRng2 [.int i, .int j] S) P := by
  refine ⟨_, ?_, q⟩
  simp only [itRng2]
  rw [if_pos h]
theorem z_listL {n : Nat} {xs : List D} (g : S.get n = some (.lst xs)) (q : Q (.loc S.n) (S.push (.lst xs))) : wo (fList [.loc n] S) Q := by
  refine wo_of ?_ q
  simp only [fList, lstAt, g]
end
/-! ### lists as data -/
theorem toPDs_map {α : Type} {f : D → Option PyData} {e : α → D} {g : α → PyData} (h : ∀ a, f (e a) = some (g a)) : ∀ as : List α, toPDs f (as.map e) = some (as.map g)
  | [] => rfl
  | a :: as => by simp only [List.map_cons, toPDs, h a, toPDs_map h as]
theorem pd_loc {S : Sto} {n k : Nat} {xs : List D} {ps : List PyData} (g : S.get n = some (.lst xs)) (h : toPDs (toPD k S) xs = some ps) : toPD (k + 1) S (.loc n) = some (.list ps) := by
  have e : lstAt S n = some xs := by unfold lstAt; rw [g]
  simp only [toPD, e, Option.bind_some, h, Option.map_some]
theorem pd_tup {S : Sto} {k : Nat} {xs : List D} {ps : List PyData} (h : toPDs (toPD k S) xs = some ps) : toPD (k + 1) S (.tup xs) = some (.tuple ps) := by
  simp only [toPD, h, Option.map_some]
theorem pd_int {S : Sto} {k : Nat} {i : Int} : toPD k S (.int i) = some (.int i) := by cases k <;> rfl
theorem pd_non {S : Sto} {k : Nat} : toPD k S .non = some .none := by cases k <;> rfl
/-! ### a join -/
def sj (J : Env → Sto → Prop) (R : Rs) : Rs := fun fl σ S => match fl with
  | .nx => J σ S
  | .bk => R .bk σ S
  | .ct => R .ct σ S
  | .rt d => R (.rt d) σ S
  | .xc x => R (.xc x) σ S
theorem ws_cut {a b : Sm} {σ : Env} {S : Sto} {R : Rs} (J : Env → Sto → Prop) (h : ws a σ S (sj J R)) (q : ∀ σ' S', J σ' S' → ws b σ' S' R) : ws (sSeq a b) σ S R := by
  refine ws_seq (h.imp fun fl σ' S' z => ?_)
  cases fl with
  | nx => exact q _ _ z
  | _ => exact z
section
variable {J : Env → Sto → Prop} {R : Rs} {σ : Env} {S : Sto} {d : D} {x : Xc}
theorem sj_nx (h : J σ S) : sj J R .nx σ S := h
theorem sj_rt (h : R (.rt d) σ S) : sj J R (.rt d) σ S := h
theorem sj_xc (h : R (.xc x) σ S) : sj J R (.xc x) σ S := h
theorem sj_bk (h : R .bk σ S) : sj J R .bk σ S := h
theorem sj_ct (h : R .ct σ S) : sj J R .ct σ S := h
end
/-! ### sorted, max -/
def leP (p q : IP) : Bool := !lexP q p
theorem kyD_IP (p : IP) : kyD (dIP p) = [(0, [p.1]), (0, [p.2])] := rfl
theorem leD_IP (p q : IP) : leD (dIP p) (dIP q) = leP p q := by
  unfold leD leP
  rw [kyD_IP, kyD_IP]
  congr 1
  unfold ltK lexP
  simp only [lexG, ltA, if_true, HT.lexLt_cons, Prod.mk.injEq, true_and, List.cons.injEq, and_true]
  by_cases h : q.1 = p.1
  · rw [if_pos h, if_pos h]
    by_cases h2 : q.2 = p.2
    · rw [if_pos h2]; simp [h2]
    · rw [if_neg h2, if_neg h2]
  · rw [if_neg h, if_neg h, if_neg h]
theorem srt_IP (ps : List IP) : srt (ps.map dIP) = some ((ps.mergeSort leP).map dIP) := by
  cases ps with
  | nil => simp [srt, intsOf]
  | cons p ps =>
    have e1 : intsOf ((p :: ps).map dIP) = none := rfl
    have e2 : cmpAll ((p :: ps).map dIP) = true := by
      unfold cmpAll
      rw [List.all_eq_true]
      intro x hx
      obtain ⟨a, _, rfl⟩ := List.mem_map.mp hx
      rw [Bool.and_eq_true]
      refine ⟨rfl, ?_⟩
      rw [List.all_eq_true]
      intro y hy
      obtain ⟨b, _, rfl⟩ := List.mem_map.mp hy
      rfl
    unfold srt
    rw [e1, e2]
    simp only
    rw [List.map_mergeSort (r := leP) (s := leD) (f := dIP) fun a _ b _ => (leD_IP a b).symm]
theorem srt_I (is : List Int) : srt (is.map .int) = some ((is.mergeSort fun a b => decide (a ≤ b)).map .int) := by
  unfold srt
  rw [intsOf_map]
section
variable {S : Sto} {Q : D → Sto → Prop}
theorem z_sorted0 {d : D} {xs ys : List D} (g : seqOf d S = some xs) (h : srt xs = some ys) (q : Q (.loc S.n) (S.push (.lst ys))) : wo (fSorted [d] S) Q := by
  refine wo_of ?_ q
  simp only [fSorted, g, h, Option.bind_some, Option.map_some]
theorem z_sorted {d : D} {xs ys : List D} (g : seqOf d S = some xs) (h : srt xs = some ys) (q : Q (.loc S.n) (S.push (.lst ys))) : wo (fSortD [d] S) Q := by
  have e : fSortD [d] S = fSorted [d] S := by
    unfold fSortD
    split
    · rename_i n hd
      cases hd
      split
      · rename_i kvs eg
        simp only [seqOf, lstAt, eg] at g
        cases g
      · rename_i kvs eg
        simp only [seqOf, lstAt, eg] at g
        cases g
      · rfl
    · rfl
  rw [e]
  exact z_sorted0 g h q
theorem z_sortK {n : Nat} {kvs : List (Key × D)} {is : List Int} (g : S.get n = some (.dK kvs)) (hl : kvs.length ≤ 100000) (hk : keysI kvs = some is) (q : Q (.loc S.n) (S.push (.lst ((is.mergeSort fun a b => decide (a ≤ b)).map .int)))) : wo (fSortD [.loc n] S) Q := by
  refine wo_of ?_ q
  simp only [fSortD, g, hk, if_pos hl, srt_I, Option.map_some]
theorem seq_lst {n : Nat} {xs : List D} (g : S.get n = some (.lst xs)) : seqOf (.loc n) S = some xs := by
  unfold seqOf lstAt
  simp only [g]
theorem z_maxP {n : Nat} {p : IP} {ps : List IP} (g : S.get n = some (.lst ((p :: ps).map dIP))) (q : Q (dIP (ps.foldl (fun a b => if lexP a b = true then b else a) p)) S) : wo (fMaxG [.loc n] S) Q := by
  refine wo_of ?_ q
  have e0 : lstAt S n = some ((p :: ps).map dIP) := by unfold lstAt; rw [g]
  have e1 : intsOf ((p :: ps).map dIP) = none := rfl
  have e2 : fMax1 [.loc n] S = none := by simp only [fMax1, onLst, e0, e1, Option.bind_none, Option.map_none]
  unfold fMaxG
  rw [e2]
  simp only [fMaxP, onLst, e0, ipsOf_map, Option.bind_some, maxP, Option.map_some]
theorem z_maxI {n : Nat} {i : Int} {is : List Int} (g : S.get n = some (.lst ((i :: is).map .int))) (q : Q (.int (is.foldl (fun a b => if a < b then b else a) i)) S) : wo (fMaxG [.loc n] S) Q := by
  refine wo_of ?_ q
  have e0 : lstAt S n = some ((i :: is).map .int) := by unfold lstAt; rw [g]
  have e2 : fMax1 [.loc n] S = some (.int (is.foldl (fun a b => if a < b then b else a) i), S) := by simp only [fMax1, onLst, e0, intsOf_map, Option.bind_some, maxI, Option.map_some]
  unfold fMaxG
  rw [e2]
end
/-! ### two fors -/
def wl2 (it : Itm) (t : Tg) (tt : Env → M Bool) (src1 : Env → M Itm) (vs1 : List Nat) (t1 : Tg) (tt1 : Env → M Bool) (f : Env → M D) (σ : Env) (S : Sto) (Q : D → Sto → Prop) : Prop := match lc2L it t tt src1 vs1 t1 tt1 f S.n σ (cnt it S) 0 (S.push (.lst [])) with
  | .ok _ S' => Q (.loc S.n) S'
  | _ => False
section
variable {S : Sto} {σ : Env} {Q : D → Sto → Prop} {E : Xc → Sto → Prop}
theorem w_lc2 {vs : List Nat} {src : Env → M Itm} {t : Tg} {tt : Env → M Bool} {src1 : Env → M Itm} {vs1 : List Nat} {t1 : Tg} {tt1 : Env → M Bool} {f : Env → M D} (w : wp (src σ) S (fun it S1 => wl2 it t tt src1 vs1 t1 tt1 f (wipeE σ vs) S1 Q) E) : wp (eLc2 vs src t tt src1 vs1 t1 tt1 f σ) S Q E := by
  refine wp_bnd (w.imp (fun it S1 z => ?_) fun _ _ z => z)
  unfold wl2 at z
  unfold wp
  dsimp only
  cases q : lc2L it t tt src1 vs1 t1 tt1 f S1.n (wipeE σ vs) (cnt it S1) 0 (S1.push (.lst [])) with
  | ok u S2 => rw [q] at z; exact z
  | exc x S2 => rw [q] at z; exact z.elim
  | bad => rw [q] at z; exact z.elim
/-- of values alone, no tests: the inner items are those of a list or tuple told by the outer one -/
theorem lc2_pure {α β : Type} {it : Itm} {t : Tg} {src1 : Env → M Itm} {vs1 : List Nat} {t1 : Tg} {f : Env → M D} (as : List α) (e : α → D) (bs : α → List β) (e1 : β → D) (g : α → β → D) (hy : ∀ i S1, Gr S S1 → nxt it i S1 = some (as.map e)[i]?) (hc : cnt it S = as.length + 1) (hz : (as.flatMap bs).length ≤ sizeLine)
    (hs : ∀ a ∈ as, ∀ S1, Gr S S1 → S.n < S1.n → wt (t (e a) σ) fun σ1 => wp (src1 σ1) S1 (fun it1 S2 => Gr S1 S2 ∧ (∀ i S3, Gx [S.n] S2 S3 → nxt it1 i S3 = some ((bs a).map e1)[i]?) ∧ cnt it1 S2 = (bs a).length + 1 ∧
      ∀ b ∈ bs a, ∀ S3, Gx [S.n] S2 S3 → wt (t1 (e1 b) (wipeE σ1 vs1)) fun σ2 => wp (f σ2) S3 (fun y S4 => y = g a b ∧ Gr S3 S4) noX) noX)
    (he : ∀ S1, Gr S S1 → S.n < S1.n → S1.get S.n = some (.lst (as.flatMap fun a => (bs a).map (g a))) → Q (.loc S.n) S1) : wl2 it t tYesM src1 vs1 t1 tYesM f σ S Q := by
  have main : ∀ k i S1, i ≤ as.length → as.length < i + k → Gr S S1 → S.n < S1.n → S1.get S.n = some (.lst ((as.take i).flatMap fun a => (bs a).map (g a))) → ∃ u S', lc2L it t tYesM src1 vs1 t1 tYesM f S.n σ k i S1 = .ok u S' ∧ Q (.loc S.n) S' := by
    intro k
    induction k with
    | zero => intro i S1 h1 h2; omega
    | succ k ih =>
      intro i S1 hi hk gr hn gg
      unfold lc2L
      rw [hy i S1 gr]
      cases hx : (as.map e)[i]? with
      | none =>
        have hl : as.length ≤ i := by simpa using List.getElem?_eq_none_iff.mp hx
        have ei : i = as.length := by omega
        subst ei
        rw [List.take_length] at gg
        exact ⟨(), S1, rfl, he S1 gr hn gg⟩
      | some x =>
        obtain ⟨a, ha, hm, rfl⟩ := mapE hx
        have hl : i < as.length := (List.getElem?_eq_some_iff.mp ha).1
        obtain ⟨σ1, et, w1⟩ := hs a hm S1 gr hn
        obtain ⟨it1, S2, es, gr2, hy1, hc1, hin⟩ := w1.ok
        have g2 := gr2.get gg
        have hn2 : S.n < S2.n := Sto.lt_of g2
        have htk : as.take (i + 1) = as.take i ++ [a] := by rw [List.take_succ, ha]; rfl
        have hlen : ((as.take i).flatMap fun a => (bs a).map (g a)).length + (bs a).length ≤ sizeLine := by
          have e1 : ((as.take i).flatMap fun a => (bs a).map (g a)).length = ((as.take i).flatMap bs).length := by
            generalize as.take i = l
            induction l with
            | nil => rfl
            | cons x l ih2 => simp only [List.flatMap_cons, List.length_append, List.length_map, ih2]
          have e2 : as = as.take i ++ a :: as.drop (i + 1) := by
            have := List.take_append_drop (i + 1) as
            rw [htk] at this
            simpa using this.symm
          have e3 : (as.flatMap bs).length = ((as.take i).flatMap bs).length + ((bs a).length + ((as.drop (i + 1)).flatMap bs).length) := by
            conv => lhs; rw [e2]
            simp only [List.flatMap_append, List.flatMap_cons, List.length_append]
          omega
        generalize hacc : (as.take i).flatMap (fun a => (bs a).map (g a)) = acc0 at gg g2 hlen
        -- the inner for
        have inner : ∃ u S3, lcL it1 t1 tYesM f S.n (wipeE σ1 vs1) (cnt it1 S2) 0 S2 = .ok u S3 ∧ (Gx [S.n] S2 S3 ∧ S3.get S.n = some (.lst (acc0 ++ (bs a).map (g a)))) := by
          have go : ∀ kk j S3, j ≤ (bs a).length → (bs a).length < j + kk → Gx [S.n] S2 S3 → S3.get S.n = some (.lst (acc0 ++ ((bs a).take j).map (g a))) → ∃ u S4, lcL it1 t1 tYesM f S.n (wipeE σ1 vs1) kk j S3 = .ok u S4 ∧ (Gx [S.n] S2 S4 ∧ S4.get S.n = some (.lst (acc0 ++ (bs a).map (g a)))) := by
            intro kk
            induction kk with
            | zero => intro j S3 h1 h2; omega
            | succ kk ih2 =>
              intro j S3 hj hkk gx g3
              unfold lcL
              rw [hy1 j S3 gx]
              cases hx1 : ((bs a).map e1)[j]? with
              | none =>
                have hl1 : (bs a).length ≤ j := by simpa using List.getElem?_eq_none_iff.mp hx1
                have ej : j = (bs a).length := by omega
                subst ej
                rw [List.take_length] at g3
                exact ⟨(), S3, rfl, gx, g3⟩
              | some x1 =>
                obtain ⟨b, hb, hbm, rfl⟩ := mapE hx1
                have hl1 : j < (bs a).length := (List.getElem?_eq_some_iff.mp hb).1
                obtain ⟨σ2, et1, w2⟩ := hin b hbm S3 gx
                obtain ⟨y, S4, ef, rfl, gr4⟩ := w2.ok
                have g4 := gr4.get g3
                have et1' : t1 (e1 b) (wipeE σ1 vs1) = some σ2 := et1
                have eb : Nat.blt (acc0 ++ ((bs a).take j).map (g a)).length sizeLine = true := blt_t (by simp only [List.length_append, List.length_map, List.length_take]; omega)
                simp only [et1', tYesM, ret, ef, g4, eb]
                have htk1 : (bs a).take (j + 1) = (bs a).take j ++ [b] := by rw [List.take_succ, hb]; rfl
                refine ih2 (j + 1) _ hl1 (by omega) ((gx.trans (gr4.any _)).set (.inl (by simp)) (Sto.lt_of g4) _) ?_
                rw [Sto.get_set g4, htk1]; simp
          exact go (cnt it1 S2) 0 S2 (Nat.zero_le _) (by omega) (Gx.refl _ _) (by simpa using g2)
        obtain ⟨u, S3, el, gx3, g3⟩ := inner
        have et' : t (e a) σ = some σ1 := et
        simp only [et', tYesM, ret, es]
        simp only [el]
        have gr3 : Gr S S3 := ⟨Nat.le_trans (gr.trans gr2).le gx3.le, fun j hj _ => (gx3.at_ j (Nat.lt_of_lt_of_le hj (gr.trans gr2).le) (by simp; omega)).trans ((gr.trans gr2).at_ j hj (by simp))⟩
        refine ih (i + 1) S3 hl (by omega) gr3 (Sto.lt_of g3) ?_
        rw [g3, htk, List.flatMap_append, hacc]; simp
  obtain ⟨u, S', el, q⟩ := main (cnt it S) 0 (S.push (.lst [])) (Nat.zero_le _) (by omega) ((Gx.refl _ _).push _) (by simp) (Sto.get_push _ _)
  unfold wl2
  rw [el]
  exact q
end
/-! ### words for the steps -/
section
variable {α β : Type} {S S' : Sto} {σ : Env} {Q : D → Sto → Prop} {E : Xc → Sto → Prop} {R : Rs} {A B : Prop} {g : Sm} {I : Env → Sto → Prop} {d : D} {x : Xc}
theorem z_var {i : Nat} (h : ∃ d, σ[i]? = some (some d) ∧ Q d S) : wp (eVar i σ) S Q E := by
  obtain ⟨d, e, h⟩ := h
  exact w_var e h
theorem z_wt {o : Option α} {P : α → Prop} (h : ∃ a, o = some a ∧ P a) : wt o P := h
theorem z_wz {n : Nat} (h : Nat.ble n sizeLine = true) (a : A) : wz n A := ⟨Nat.le_of_ble_eq_true h, a⟩
theorem z_wo {o : Option (D × Sto)} (h : ∃ d S', o = some (d, S') ∧ Q d S') : wo o Q := by
  obtain ⟨d, S', e, h⟩ := h
  exact wo_of e h
theorem sq_nx (h : ws g σ S R) : sq g R .nx σ S := h
theorem sq_rt (h : R (.rt d) σ S) : sq g R (.rt d) σ S := h
theorem sq_xc (h : R (.xc x) σ S) : sq g R (.xc x) σ S := h
theorem sq_bk (h : R .bk σ S) : sq g R .bk σ S := h
theorem sq_ct (h : R .ct σ S) : sq g R .ct σ S := h
theorem fz_nx (h : Q .non S) : fz Q E .nx σ S := h
theorem fz_rt (h : Q d S) : fz Q E (.rt d) σ S := h
theorem fz_xc (h : E x S) : fz Q E (.xc x) σ S := h
theorem lp_nx (h : I σ S) : lp I R .nx σ S := h
theorem lp_ct (h : I σ S) : lp I R .ct σ S := h
theorem lp_bk (h : R .nx σ S) : lp I R .bk σ S := h
theorem lp_rt (h : R (.rt d) σ S) : lp I R (.rt d) σ S := h
theorem lp_xc (h : R (.xc x) σ S) : lp I R (.xc x) σ S := h
end
/-! ### operations whose sides are not written out -/
section
variable {S : Sto} {Q : D → Sto → Prop}
theorem z_mod {i j : Int} (h : 0 < j) (q : Q (.int (i % j)) S) : wo (fMod (.int i) (.int j) S) Q := by
  refine wo_of ?_ q
  simp only [fMod, fMod0, iF, decide_eq_true h, Option.map_some]
theorem z_div {i j : Int} (h : 0 < j) (h2 : j < 1073741824) (q : Q (.int (i / j)) S) : wo (fDiv (.int i) (.int j) S) Q := by
  refine wo_of ?_ q
  simp only [fDiv, fDiv0, iF, decide_eq_true h, decide_eq_true h2, Option.map_some, Bool.and_self]
theorem z_mul {i j : Int} (h : (-(2 ^ 64) < i ∧ i < 2 ^ 64) ∨ (-(2 ^ 64) < j ∧ j < 2 ^ 64)) (q : Q (.int (i * j)) S) : wo (fMul (.int i) (.int j) S) Q := by
  refine wo_of ?_ q
  have e : (small64 i || small64 j) = true := by
    unfold small64
    rcases h with h | h
    · rw [decide_eq_true h.1, decide_eq_true h.2]; rfl
    · rw [decide_eq_true h.1, decide_eq_true h.2]; simp
  simp only [fMul, e]
theorem z_pow {i j : Int} (h : 0 ≤ j ∧ j ≤ 1000000 ∧ i.natAbs < 2 ^ 64) (q : Q (.int (i ^ j.toNat)) S) : wo (fPow (.int i) (.int j) S) Q := by
  refine wo_of ?_ q
  simp only [fPow, fPow0, iF, decide_eq_true h.1, decide_eq_true h.2.1, decide_eq_true h.2.2, Option.map_some, Bool.and_self]
theorem z_fld {cs : List Str} {n c : Str} {ns : List Str} {ds : List D} {d : D} (h1 : cs.contains c = true) (h2 : (ns.zip ds).lookup n = some d) (q : Q d S) : wo (fFld cs n (.xc c ns ds) S) Q := by
  refine wo_of ?_ q
  simp only [fFld, h1, h2]
theorem z_mulL {a : Nat} {xs : List D} {k : Int} (g : S.get a = some (.lst xs)) (h : -(2 ^ 63) ≤ k ∧ k < 2 ^ 63) (h2 : xs.length * k.toNat ≤ sizeLine) (q : Q (.loc S.n) (S.push (.lst (List.replicate k.toNat xs).flatten))) : wo (fMul (.loc a) (.int k) S) Q := by
  refine wo_of ?_ q
  simp only [fMul, g, decide_eq_true h.1, decide_eq_true h.2, Nat.ble_eq_true_of_le h2, Bool.and_self]
theorem z_mulT {xs : List D} {k : Int} (h0 : xs ≠ []) (h : 1 ≤ k ∧ k ≤ 1000) (h2 : xs.length ≤ 1000) (q : Q (.tup (List.replicate k.toNat xs).flatten) S) : wo (fMulT (.tup xs) (.int k) S) Q := by
  by_cases hk : k = 1
  · subst hk
    have e : (List.replicate (1 : Int).toNat xs).flatten = xs := by simp
    rw [e] at q
    exact wo_of (by simp [fMulT]) q
  · refine wo_of ?_ q
    have e0 : xs.isEmpty = false := by cases xs with
      | nil => exact absurd rfl h0
      | cons _ _ => rfl
    simp only [fMulT, if_neg hk, fMul, e0, decide_eq_true (show (2 : Int) ≤ k by omega), decide_eq_true h.2, Nat.ble_eq_true_of_le h2, Bool.not_false, Bool.and_self]
theorem z_ixT {xs : List D} {i : Int} {d : D} (h : atD xs i = some d) (q : Q d S) : wo (fIx (.tup xs) (.int i) S) Q := by
  refine wo_of ?_ q
  simp only [fIx, h, Option.map_some]
theorem z_ixL {n : Nat} {xs : List D} {i : Int} {d : D} (g : S.get n = some (.lst xs)) (h : atD xs i = some d) (q : Q d S) : wo (fIx (.loc n) (.int i) S) Q := by
  refine wo_of ?_ q
  simp only [fIx, g, h, Option.map_some]
theorem z_ixK {n : Nat} {kvs : List (Key × D)} {z : Str} {d : D} (g : S.get n = some (.dK kvs)) (h : dGet kvs (Sum.inr z) = some d) (q : Q d S) : wo (fIx (.loc n) (.str z) S) Q := by
  refine wo_of ?_ q
  simp only [fIx, g, h, Option.map_some]
theorem z_lenL {n : Nat} {xs : List D} (g : S.get n = some (.lst xs)) (q : Q (.int (xs.length : Nat)) S) : wo (fLen [.loc n] S) Q := by
  refine wo_of ?_ q
  simp only [fLen, lenD, g, Option.map_some]
theorem z_tupL {n : Nat} {xs : List D} (g : S.get n = some (.lst xs)) (q : Q (.tup xs) S) : wo (fTuple [.loc n] S) Q := by
  refine wo_of ?_ q
  simp only [fTuple, lstAt, g]
theorem z_all {n : Nat} {bs : List Bool} (g : S.get n = some (.lst (bs.map .bl))) (q : Q (.bl (bs.all id)) S) : wo (fAll [.loc n] S) Q := by
  refine wo_of ?_ q
  simp only [fAll, onLst, lstAt, g, blsOf_map, Option.map_some]
theorem z_any {n : Nat} {bs : List Bool} (g : S.get n = some (.lst (bs.map .bl))) (q : Q (.bl (bs.any id)) S) : wo (fAny [.loc n] S) Q := by
  refine wo_of ?_ q
  simp only [fAny, onLst, lstAt, g, blsOf_map, Option.map_some]
theorem z_addT {xs ys : List D} (h : xs.length + ys.length ≤ sizeLine) (q : Q (.tup (xs ++ ys)) S) : wo (fAdd (.tup xs) (.tup ys) S) Q := by
  refine wo_of ?_ q
  simp only [fAdd, Nat.ble_eq_true_of_le h]
theorem z_addL {a b : Nat} {xs ys : List D} (g1 : S.get a = some (.lst xs)) (g2 : S.get b = some (.lst ys)) (h : xs.length + ys.length ≤ sizeLine) (q : Q (.loc S.n) (S.push (.lst (xs ++ ys)))) : wo (fAdd (.loc a) (.loc b) S) Q := by
  refine wo_of ?_ q
  simp only [fAdd, g1, g2, Nat.ble_eq_true_of_le h]
theorem z_app {n : Nat} {xs : List D} {y : D} (g : S.get n = some (.lst xs)) (h : xs.length < sizeLine) (q : Q .non (S.set n (.lst (xs ++ [y])))) : wo (fApp (.loc n) [y] S) Q := by
  refine wo_of ?_ q
  simp only [fApp, g, blt_t h]
theorem z_eq {x y : D} {p r : PyData} (h1 : toPD 40 S x = some p) (h2 : toPD 40 S y = some r) (q : Q (.bl (PyData.eqv p r)) S) : wo (fEq x y S) Q := by
  refine wo_of ?_ q
  simp only [fEq, fPD, h1, h2]
theorem z_ne {x y : D} {p r : PyData} (h1 : toPD 40 S x = some p) (h2 : toPD 40 S y = some r) (q : Q (.bl (!PyData.eqv p r)) S) : wo (fNe x y S) Q := by
  refine wo_of ?_ q
  simp only [fNe, fPD, h1, h2]
theorem z_ext {n b : Nat} {xs zs : List D} (g1 : S.get n = some (.lst xs)) (g2 : S.get b = some (.lst zs)) (h : xs.length + zs.length ≤ sizeLine) (q : Q .non (S.set n (.lst (xs ++ zs)))) : wo (fExt (.loc n) [.loc b] S) Q := by
  refine wo_of ?_ q
  simp only [fExt, g1, g2, Nat.ble_eq_true_of_le h]
theorem z_notIn {x y : D} {p r : PyData} {ps : List PyData} (h1 : toPD 40 S x = some p) (h2 : toPD 40 S y = some r) (h3 : seqPD r = some ps) (q : Q (.bl (!ps.any fun z => PyData.eqv z p)) S) : wo (fNotIn x y S) Q := by
  refine wo_of ?_ q
  simp only [fNotIn, fPD, h1, h2, h3, Option.map_some]
theorem z_in {x y : D} {p r : PyData} {ps : List PyData} (h1 : toPD 40 S x = some p) (h2 : toPD 40 S y = some r) (h3 : seqPD r = some ps) (q : Q (.bl (ps.any fun z => PyData.eqv z p)) S) : wo (fIn x y S) Q := by
  refine wo_of ?_ q
  simp only [fIn, fPD, h1, h2, h3, Option.map_some]
theorem z_dictP {n : Nat} {xs : List D} {kvs : List (List Key × D)} (g : S.get n = some (.lst xs)) (h : pairsD xs = some kvs) (hl : xs.length ≤ 100000) (q : Q (.loc S.n) (S.push (.dT (kvs.foldl putT [])))) : wo (fDictP [.loc n] S) Q := by
  refine wo_of ?_ q
  simp only [fDictP, lstAt, g, h, if_pos hl]
theorem z_sortT {n : Nat} {kvs : List (List Key × D)} {ys : List D} (g : S.get n = some (.dT kvs)) (hl : kvs.length ≤ 100000) (h : srt (keysT kvs) = some ys) (q : Q (.loc S.n) (S.push (.lst ys))) : wo (fSortD [.loc n] S) Q := by
  refine wo_of ?_ q
  simp only [fSortD, g, h, if_pos hl, Option.map_some]
theorem z_tupR2 {i j : Int} (h : -100000 ≤ i ∧ i ≤ 100000 ∧ -100000 ≤ j ∧ j ≤ 100000) (q : Q (.tup (rgD i j)) S) : wo (fTupR2 (.int i) (.int j) S) Q := by
  refine wo_of ?_ q
  simp only [fTupR2, fRgT, if_pos h]
theorem z_tupR1 {j : Int} (h : -100000 ≤ j ∧ j ≤ 100000) (q : Q (.tup (rgD 0 j)) S) : wo (fTupR1 (.int j) S) Q := by
  refine wo_of ?_ q
  simp only [fTupR1, fRgT, if_pos (show (-100000 : Int) ≤ 0 ∧ (0 : Int) ≤ 100000 ∧ -100000 ≤ j ∧ j ≤ 100000 from ⟨by omega, by omega, h.1, h.2⟩)]
theorem z_lstR1 {j : Int} (h : -100000 ≤ j ∧ j ≤ 100000) (q : Q (.loc S.n) (S.push (.lst (rgD 0 j)))) : wo (fLstR1 (.int j) S) Q := by
  refine wo_of ?_ q
  simp only [fLstR1, fRgL, if_pos (show (-100000 : Int) ≤ 0 ∧ (0 : Int) ≤ 100000 ∧ -100000 ≤ j ∧ j ≤ 100000 from ⟨by omega, by omega, h.1, h.2⟩)]
theorem z_lstR2 {i j : Int} (h : -100000 ≤ i ∧ i ≤ 100000 ∧ -100000 ≤ j ∧ j ≤ 100000) (q : Q (.loc S.n) (S.push (.lst (rgD i j)))) : wo (fLstR2 (.int i) (.int j) S) Q := by
  refine wo_of ?_ q
  simp only [fLstR2, fRgL, if_pos h]
theorem w_d0 {σ : Env} {E : Xc → Sto → Prop} (h : Q (.loc S.n) (S.push (.dK []))) : wp (eD0 σ) S Q E := h
theorem w_star {σ : Env} {E : Xc → Sto → Prop} {f : Env → M D} {g : Env → M (List D)} {Q : List D → Sto → Prop} (w : wp (f σ) S (fun x S1 => wt (seqOf x S1) fun xs => wp (g σ) S1 (fun ys S2 => Q (xs ++ ys) S2) E) E) : wp (aStar f g σ) S Q E := by
  refine wp_bnd (w.imp (fun x S1 z => ?_) fun _ _ z => z)
  obtain ⟨xs, e, z⟩ := z
  refine wp_bnd ?_
  unfold seqM wp
  dsimp only
  rw [e]
  exact wp_bnd (z.imp (fun ys S2 q => q) fun _ _ q => q)
theorem w_get1 {σ : Env} {E : Xc → Sto → Prop} {f g : Env → M D} (w : wp (f σ) S (fun x S1 => wp (chkD x) S1 (fun _ S2 => wp (g σ) S2 (fun y S3 => wo (fGet1 x y S3) Q) E) E) E) : wp (eGet1 f g σ) S Q E :=
  wp_bnd (w.imp (fun _ _ z => wp_bnd (z.imp (fun _ _ z => wp_bnd (z.imp (fun _ _ z => wp_up z) fun _ _ z => z)) fun _ _ z => z)) fun _ _ z => z)
theorem w_chkD {n : Nat} {kvs : List (Key × D)} {E : Xc → Sto → Prop} {Q : Unit → Sto → Prop} (e : S.get n = some (.dK kvs)) (h : Q () S) : wp (chkD (.loc n)) S Q E := by
  unfold wp chkD
  dsimp only
  rw [e]
  exact h
theorem z_kget {kvs : List (Str × Int)} {z : Str} (q : Q (getS kvs z) S) : wo (fKGet kvs (.str z) S) Q := by
  refine wo_of ?_ q
  simp only [fKGet]
theorem z_revT {xs : List D} (q : Q (.tup xs.reverse) S) : wo (fRevT (.tup xs) S) Q := by
  refine wo_of ?_ q
  simp only [fRevT]
theorem z_max3 {i j l : Int} (q : Q (.int (max (max i j) l)) S) : wo (fMax3 [.int i, .int j, .int l] S) Q := by
  refine wo_of ?_ q
  simp only [fMax3]
theorem z_eqU {x : D} {b : Bool} (h : isU S x = some b) (q : Q (.bl b) S) : wo (fEqU x (.tup []) S) Q := by
  refine wo_of ?_ q
  simp only [fEqU, h, Option.map_some]
theorem z_neU {x : D} {b : Bool} (h : isNU S x = some b) (q : Q (.bl b) S) : wo (fNeU x (.tup []) S) Q := by
  refine wo_of ?_ q
  simp only [fNeU, h, Option.map_some]
theorem z_repr {x : D} {p : PyData} (h : toPR S x = some p) (h1 : p.showable = true) (h2 : p.shown.length ≤ sizeLine) (q : Q (.str p.shown) S) : wo (fRepr [x] S) Q := by
  refine wo_of ?_ q
  simp only [fRepr, h, if_pos (⟨h1, h2⟩ : p.showable = true ∧ p.shown.length ≤ sizeLine)]
theorem w_irng3 {σ : Env} {E : Xc → Sto → Prop} {g : Env → M (List D)} {Q : Itm → Sto → Prop} (w : wp (g σ) S (fun d S1 => wt (itRng3 d S1) fun it => Q it S1) E) : wp (iRng3' g σ) S Q E :=
  wp_bnd (w.imp (fun d S1 z => by
    obtain ⟨it, e, q⟩ := z
    unfold upI wp
    dsimp only
    rw [e]
    exact q) fun _ _ z => z)
theorem z_itR3 {i j : Int} {P : Itm → Prop} (h : -100000 ≤ i ∧ i ≤ 100000 ∧ -100000 ≤ j ∧ j ≤ 100000) (q : P (.fix (dnL i j))) : wt (itRng3 [.int i, .int j, .int (-1)] S) P := by
  refine ⟨_, ?_, q⟩
  simp only [itRng3]
  rw [if_pos ⟨trivial, h⟩]
theorem putD_len {kvs : List (Key × D)} {k : Key} {d : D} : (putD kvs k d).length ≤ kvs.length + 1 := by
  unfold putD
  split
  · rw [List.length_map]; omega
  · rw [List.length_append, List.length_singleton]; omega
/-! dict comprehensions -/
def wd (it : Itm) (t : Tg) (tt : Env → M Bool) (fk fv : Env → M D) (σ : Env) (S : Sto) (Q : D → Sto → Prop) : Prop := match dcL it t tt fk fv S.n σ (cnt it S) 0 (S.push (.dK [])) with
  | .ok _ S' => Q (.loc S.n) S'
  | _ => False
theorem w_dc {σ : Env} {E : Xc → Sto → Prop} {vs : List Nat} {src : Env → M Itm} {t : Tg} {tt : Env → M Bool} {fk fv : Env → M D} (w : wp (src σ) S (fun it S1 => wd it t tt fk fv (wipeE σ vs) S1 Q) E) : wp (eDc vs src t tt fk fv σ) S Q E := by
  refine wp_bnd (w.imp (fun it S1 z => ?_) fun _ _ z => z)
  unfold wd at z
  unfold wp
  dsimp only
  cases q : dcL it t tt fk fv S1.n (wipeE σ vs) (cnt it S1) 0 (S1.push (.dK [])) with
  | ok u S2 => rw [q] at z; exact z
  | exc x S2 => rw [q] at z; exact z.elim
  | bad => rw [q] at z; exact z.elim
theorem dcL_ty {α : Type} {σ : Env} {S0 : Sto} {it : Itm} {t : Tg} {tt : Env → M Bool} {fk fv : Env → M D} (as : List α) (e : α → D) (p : α → Bool) (kf : α → Key) (g : α → D) (hy : ∀ i S1, Gr S0 S1 → nxt it i S1 = some (as.map e)[i]?) (hz : as.length ≤ 1000)
    (hs : ∀ a ∈ as, ∀ S1, Gr S0 S1 → wt (t (e a) σ) fun σ1 => wp (tt σ1) S1 (fun c S2 => c = p a ∧ Gr S1 S2 ∧ (p a = true → wp (fk σ1) S2 (fun y S3 => keyOf y = some (kf a) ∧ Gr S2 S3 ∧ wp (fv σ1) S3 (fun z S4 => z = g a ∧ Gr S3 S4) noX) noX)) noX) :
    ∀ k i S1 kvs, i ≤ as.length → as.length < i + k → kvs.length ≤ i → Gr S0 S1 → S0.n < S1.n → kvs = ((as.take i).filter p).foldl (fun acc a => putD acc (kf a) (g a)) [] → S1.get S0.n = some (.dK kvs) →
      ∃ u S', dcL it t tt fk fv S0.n σ k i S1 = .ok u S' ∧ Gr S0 S' ∧ S0.n < S'.n ∧ S'.get S0.n = some (.dK ((as.filter p).foldl (fun acc a => putD acc (kf a) (g a)) []))
  | 0, i, S1, kvs, hi, hk, _, _, _, _, _ => by omega
  | k + 1, i, S1, kvs, hi, hk, hl, gr, hn, ek, gS => by
    have en := hy i S1 gr
    unfold dcL
    rw [en]
    cases hx : (as.map e)[i]? with
    | none =>
      have hle : as.length ≤ i := by
        have := List.getElem?_eq_none_iff.mp hx
        rwa [List.length_map] at this
      have : i = as.length := by omega
      subst this
      rw [List.take_length] at ek
      exact ⟨(), S1, rfl, gr, hn, by rw [gS, ek]⟩
    | some x =>
      obtain ⟨a, ha, hm, rfl⟩ := mapE hx
      have hlt : i < as.length := (List.getElem?_eq_some_iff.mp ha).1
      have htk : as.take (i + 1) = as.take i ++ [a] := by rw [List.take_succ, ha]; rfl
      obtain ⟨σ1, e1, w1⟩ := hs a hm S1 gr
      obtain ⟨c, S2, e2, rfl, gr2, w2⟩ := w1.ok
      simp only [e1, e2]
      cases hp : p a with
      | false =>
        exact dcL_ty as e p kf g hy hz hs k (i + 1) S2 kvs hlt (by omega) (by omega) (gr.trans gr2) (Nat.lt_of_lt_of_le hn gr2.le) (by rw [htk, List.filter_append, ek]; simp [hp]) (gr2.get gS)
      | true =>
        obtain ⟨y, S3, e3, ky, gr3, w3⟩ := (w2 hp).ok
        obtain ⟨z, S4, e4, rfl, gr4⟩ := w3.ok
        have g4 := gr4.get (gr3.get (gr2.get gS))
        have e5 : Nat.blt kvs.length sizeLine = true := blt_t (Nat.lt_of_le_of_lt (Nat.le_trans hl (Nat.le_trans (Nat.le_of_lt hlt) hz)) (by decide))
        simp only [e3, e4, g4, ky, e5]
        have hpl := putD_len (kvs := kvs) (k := kf a) (d := g a)
        exact dcL_ty as e p kf g hy hz hs k (i + 1) _ (putD kvs (kf a) (g a)) hlt (by omega) (by omega) ((((gr.trans gr2).trans gr3).trans gr4).set (.inr (Nat.le_refl _)) (Sto.lt_of g4) _) (by
          have h1 := gr2.le; have h2 := gr3.le; have h3 := gr4.le
          show S0.n < S4.n
          omega) (by rw [htk, List.filter_append, ek]; simp [hp]) (Sto.get_set g4)
theorem dc_F {α : Type} {σ : Env} {t : Tg} {tt : Env → M Bool} {fk fv : Env → M D} {as : List α} {e : α → D} (p : α → Bool) (kf : α → Key) (g : α → D) (hz : as.length ≤ 1000)
    (hs : ∀ a ∈ as, ∀ S1, Gr S S1 → wt (t (e a) σ) fun σ1 => wp (tt σ1) S1 (fun c S2 => c = p a ∧ Gr S1 S2 ∧ (p a = true → wp (fk σ1) S2 (fun y S3 => keyOf y = some (kf a) ∧ Gr S2 S3 ∧ wp (fv σ1) S3 (fun z S4 => z = g a ∧ Gr S3 S4) noX) noX)) noX)
    (he : ∀ S1, Gr S S1 → S.n < S1.n → S1.get S.n = some (.dK ((as.filter p).foldl (fun acc a => putD acc (kf a) (g a)) [])) → Q (.loc S.n) S1) : wd (.fix (as.map e)) t tt fk fv σ S Q := by
  obtain ⟨u, S', q, g1, g2, g3⟩ := dcL_ty (it := .fix (as.map e)) as e p kf g (fun _ _ _ => rfl) hz hs (cnt (.fix (as.map e)) S) 0 (S.push (.dK [])) [] (Nat.zero_le _) (by simp only [cnt, List.length_map]; omega) (Nat.le_refl _) ((Gx.refl [] S).push _) (by simp) rfl (Sto.get_push _ _)
  unfold wd
  rw [q]
  exact he S' g1 g2 g3
end
end L2.Z

set_option Elab.async false
set_option linter.all false
set_option maxRecDepth 100000
set_option maxHeartbeats 4000000
/-! ZJ: tuples that were written here, s.index(i) over ints. -/
namespace L2
open PySem PySem.Spec PyProof.Rows
section
variable {X : Cx} {es : List Expr} {t : TA} {pos : Pos}
theorem pe_xtp {k} (h : PA X es t) : PE X (.Tuple es k pos) (fun σ H Q => t σ H fun xs H1 => xs.length ≤ sizeLine ∧ ∀ p ob, H1 p = none → ob.dict = none → Q (.ref p) (upd H1 p (.frz ob (.tup xs)))) := by
  refine ⟨fun pins s σ H Q I hq => wpAny_Tuple_spliced (thn (h.run pos pins s σ H _ I hq) fun us s1 hh => ?_)⟩
  obtain ⟨xs, H1, I1, r, z, q⟩ := hh
  refine ⟨by rw [← r.length]; exact z, ?_⟩
  have fr : H1 s1.heap.objs.size = none := I1.hok.fresh (Nat.le_refl _)
  refine ⟨.ref s1.heap.objs.size, upd H1 s1.heap.objs.size (.frz { cls := .type "tuple", data := .seq us.toArray } (.tup xs)), I1.laid (t' := s1.toks) (fun b u e => Heap.get?_push_of_some _ e) (Nat.le_refl _) ?_, rfl, q _ _ fr rfl⟩
  exact ⟨Heap.get?_push_size _ rfl, z, us, r, ⟨_, Heap.get?_push_size _ rfl, rfl, _, rfl⟩⟩
theorem mt_idxL : MtR X "list.index" (fun x xs H Q => ∃ (p : Addr) (ns : List Int) (k : Int), x = .ref p ∧ xs = [.int k] ∧ SqL X.K H p (ns.map V.int) ∧ k ∈ ns ∧ Q (.int (ns.idxOf k : Nat)) H) := by
  intro pins s σ H x xs v us Q I rx rs h
  obtain ⟨p, ns, k, rfl, rfl, hq, hm, q⟩ := h
  cases rx
  obtain ⟨u, rfl, t, rfl⟩ := Vals.one rs
  obtain ⟨its, rv, pl, hz⟩ := I.list hq
  exact SeqAt.list_index_ints (vs := its) pl.isList (ints_of_vals rv) (by simpa using hz) hm ⟨.int (ns.idxOf k : Nat), H, I.tok _, ⟨_, rfl⟩, q⟩
theorem mt_idxT : MtR X "tuple.index" (fun x xs H Q => ∃ (p : Addr) (ns : List Int) (k : Int), x = .ref p ∧ xs = [.int k] ∧ SqT X.K H p (ns.map V.int) ∧ k ∈ ns ∧ Q (.int (ns.idxOf k : Nat)) H) := by
  intro pins s σ H x xs v us Q I rx rs h
  obtain ⟨p, ns, k, rfl, rfl, hq, hm, q⟩ := h
  cases rx
  obtain ⟨u, rfl, t, rfl⟩ := Vals.one rs
  obtain ⟨its, rv, pl, hz⟩ := I.tuple hq
  exact SeqAt.tuple_index_ints (vs := its) pl (ints_of_vals rv) hm ⟨.int (ns.idxOf k : Nat), H, I.tok _, ⟨_, rfl⟩, q⟩
theorem pe_idx {o e : Expr} {to : TE} {apos cpos : Pos} (ho : PE X o to) (ha : PA X [e] t)
    (hbase : attributeBase o "index" X.env (eval o X.env) = eval o X.env)
    (hfew : ((backTo cpos (starEach [e] X.env)).all (fun x => !x.1) && (backToKw cpos (keywordEach [] X.env)).all (fun x => x.1.isSome)
      && decide ([e].length + ([] : List Keyword).length + (if ([] : List Keyword).isEmpty then 0 else 1) < 30)) = true)
    (hline : (apos.endLine == cpos.line) = true) (hs : starEach [e] X.env = (false, eval e X.env) :: starEach [] X.env) :
    PE X (.Call (.Attribute o "index" apos) [e] [] cpos) (fun σ H Q => to σ H fun x H1 =>
      (∃ a xs, x = .ref a ∧ SqL X.K H1 a xs ∧ t σ H1 fun ys H2 => ∃ (p : Addr) (ns : List Int) (k : Int), x = .ref p ∧ ys = [.int k] ∧ SqL X.K H2 p (ns.map V.int) ∧ k ∈ ns ∧ Q (.int (ns.idxOf k : Nat)) H2) ∨
      (∃ a xs ob, x = .ref a ∧ H1 a = some (.frz ob (.tup xs)) ∧ ob.dict = none ∧ t σ H1 fun ys H2 => ∃ (p : Addr) (ns : List Int) (k : Int), x = .ref p ∧ ys = [.int k] ∧ SqT X.K H2 p (ns.map V.int) ∧ k ∈ ns ∧ Q (.int (ns.idxOf k : Nat)) H2)) := by
  refine ⟨fun pins s σ H Q I h => ?_⟩
  refine wpAny_Call_method_late hbase hfew hline rfl (thn (ho.run pins s σ H _ I h) fun v s1 hh => ?_)
  obtain ⟨x, H1, I1, r1, hx⟩ := hh
  rcases hx with ⟨a, xs, rfl, hq, q1⟩ | ⟨a, xs, ob, rfl, hq, hd, q1⟩
  · cases r1
    obtain ⟨its, _, pl, _⟩ := I1.list hq
    refine ⟨"list", "list.index", PySem.F.plainAttrs_list, PySem.F.slot_list_index, PySem.F.type_list_index, pl.isList.typeIs, fun b eb => ?_, ?_⟩
    · cases eb
      obtain ⟨o, n, e1, _, e2, _⟩ := pl
      exact ⟨o, e1, e2⟩
    · have hA := ha.run cpos pins s1 σ H1 _ I1 q1
      rw [hs] at hA ⊢
      refine Calls.callWith_builtin rfl (Calls.evalArgs_plain ?_)
      exact thn hA fun us s2 ⟨vs, H2, I2, r2, q2⟩ => mt_idxL pins s2 σ H2 (.ref a) vs _ us Q I2 rfl r2 q2
  · cases r1
    obtain ⟨z1, z2, its, _, o2, e2, c2, _⟩ := (show ObjOk X.prog X.w H1 s1.heap a (.frz ob (.tup xs)) from I1.hok a _ hq)
    refine ⟨"tuple", "tuple.index", PySem.F.plainAttrs_tuple, PySem.F.slot_tuple_index, PySem.F.type_tuple_index, ⟨o2, e2, c2⟩, fun b eb => ?_, ?_⟩
    · cases eb
      exact ⟨ob, z1, hd⟩
    · have hA := ha.run cpos pins s1 σ H1 _ I1 q1
      rw [hs] at hA ⊢
      refine Calls.callWith_builtin rfl (Calls.evalArgs_plain ?_)
      exact thn hA fun us s2 ⟨vs, H2, I2, r2, q2⟩ => mt_idxT pins s2 σ H2 (.ref a) vs _ us Q I2 rfl r2 q2
end
end L2
namespace L2.Z
open PySem PySem.Spec PyProof.Rows
def asT : D → D
  | .xtp xs => .tup xs
  | d => d
/-- read as any tuple -/
def eCo (f : Env → M D) : Env → M D := fun σ => bnd (f σ) fun d => ret (asT d)
def mkXtp (ds : List D) : Sto → Option (D × Sto) := fun S => match Nat.ble ds.length sizeLine with
  | true => some (.xtp ds, S)
  | false => none
def eXtp (g : Env → M (List D)) : Env → M D := fun σ => bnd (g σ) fun ds => up (mkXtp ds)
def seqI (x : D) (S : Sto) : Option (List Int) := match x with
  | .xtp xs => intsOf xs
  | .loc n => (lstAt S n).bind intsOf
  | _ => none
def chkX (x : D) : M Unit := fun S => match x with
  | .xtp _ => .ok () S
  | .loc n => match lstAt S n with
    | some _ => .ok () S
    | none => .bad
  | _ => .bad
def fIdx (x : D) (ds : List D) : Sto → Option (D × Sto) := fun S => match ds with
  | [.int k] => match seqI x S with
    | some ns => match ns.contains k with
      | true => some (.int (ns.idxOf k : Nat), S)
      | false => none
    | none => none
  | _ => none
def eIdx (f : Env → M D) (g : Env → M (List D)) : Env → M D := fun σ => bnd (f σ) fun x => bnd (chkX x) fun _ => bnd (g σ) fun ds => up (fIdx x ds)
section
variable [HasT]
theorem RD.co {K : PySem.W.Frag} {m : List Addr} {H : Hp} : ∀ {d : D} {v : V}, RD K m H d v → RD K m H (asT d) v := by
  intro d v h
  cases d with
  | xtp xs =>
    simp only [RD] at h
    obtain ⟨a, vs, ob, e, q, z, r⟩ := h
    show RD K m H (.tup xs) v
    simp only [RD]
    exact ⟨a, vs, e, .inl (.inr ⟨ob, q⟩), r⟩
  | _ => exact h
variable {X : Cx} {e o : Expr} {es : List Expr} {f : Env → M D} {g : Env → M (List D)} {pos apos cpos : Pos}
theorem q_co (h : QE X e f) : QE X e (eCo f) := ⟨fun W tk m S σ σv H P rs re p => by
  refine (h.run W tk m S σ σv H _ rs re p.bnd).mono ?_
  rintro x H1 ⟨d1, S1, m1, rs1, r1, x1, q1⟩
  exact ⟨asT d1, S1, m1, rs1, r1.co, x1, q1 m1 H1 (.refl _ _) rs1⟩⟩
theorem q_xtp {k} (h : QA X es g) : QE X (.Tuple es k pos) (eXtp g) := ⟨fun W tk m S σ σv H P rs re p => by
  refine wE.of (pe_xtp (paw es)) ?_
  intro pos' pins' s' I'
  refine thn (h.run W tk m S σ σv H _ rs re p.bnd pos' pins' s' I') ?_
  rintro us s2 ⟨vs, H2, I2, rv, ds, S2, m2, rs2, r2, x2, q2⟩
  obtain ⟨d, S', e, q⟩ := q2.up
  unfold mkXtp at e
  split at e
  · rename_i hl
    cases e
    refine ⟨vs, H2, I2, rv, by rw [← r2.length]; exact Nat.le_of_ble_eq_true hl, fun t ob ht hd => ?_⟩
    have rs3 := rs2.new (o := .frz ob (.tup vs)) ht
    refine ⟨.xtp ds, S2, m2, rs3, ?_, x2.trans (.new ht), q m2 _ (.new ht) rs3⟩
    simp only [RD]
    exact ⟨t, vs, ob, rfl, upd_same, hd, RDs.mono (.new ht) _ _ r2⟩
  · cases e⟩
theorem q_idx (ho : QE X o f) (ha : QA X [e] g)
    (hbase : attributeBase o "index" X.env (eval o X.env) = eval o X.env := by rfl)
    (hfew : ((backTo cpos (starEach [e] X.env)).all (fun x => !x.1) && (backToKw cpos (keywordEach [] X.env)).all (fun x => x.1.isSome)
      && decide ([e].length + ([] : List Keyword).length + (if ([] : List Keyword).isEmpty then 0 else 1) < 30)) = true := by rfl)
    (hline : (apos.endLine == cpos.line) = true := by rfl) (hs : starEach [e] X.env = (false, eval e X.env) :: starEach [] X.env := by rfl) :
    QE X (.Call (.Attribute o "index" apos) [e] [] cpos) (eIdx f g) := ⟨fun W tk m S σ σv H P rs re p => by
  refine wE.of (pe_idx (pw o) (paw [e]) hbase hfew hline hs) ?_
  refine (ho.run W tk m S σ σv H _ rs re p.bnd).mono ?_
  rintro x H1 ⟨d1, S1, m1, rs1, r1, x1, q1⟩
  have q2 := q1.bnd
  have args : ∀ {R : List V → Hp → Prop}, PostG X.K X.mg m1 H1 (bnd (g σ) (fun ds => up (fIdx d1 ds)) S1) (fun a S' m' H' => P a S' m' H') (fun c d H' => W c d σv H') → (∀ m2 S2 H2 k vs, RS X.K m2 S2 H2 → Ext m1 H1 m2 H2 → RD X.K m2 H2 d1 x → ∀ d S', fIdx d1 [.int k] S2 = some (d, S') → (∀ v, RD X.K m2 H2 d v → GV X.K m H P v H2) → vs = [.int k] → R vs H2) → wA X [e] σv H1 R := by
    intro R q3 hR pos' pins' s' I'
    refine thn (ha.run W tk m1 S1 σ σv H1 _ rs1 (re.mono x1) q3.bnd pos' pins' s' I') ?_
    rintro us s2 ⟨ws, H2, I2, rv, ds, S2, m2, rs2, r2, x2, q4⟩
    obtain ⟨d, S', e', fin⟩ := q4.up
    have e0 := e'
    unfold fIdx at e'
    split at e'
    · rename_i k
      have eS : S' = S2 := by
        split at e'
        · split at e'
          · cases e'; rfl
          · cases e'
        · cases e'
      subst eS
      simp only [RDs, RD] at r2
      obtain ⟨w, r, rfl, rfl, rfl⟩ := r2
      exact ⟨_, H2, I2, rv, hR m2 S' H2 k _ rs2 x2 (RD.mono x2 _ _ r1) d S' e0 (fun v hv => ⟨d, S', m2, rs2, hv, x1.trans x2, fin m2 H2 (.refl _ _) rs2⟩) rfl⟩
    · cases e'
  unfold chkX at q2
  split at q2
  · rename_i xs
    have q3 := q2 m1 H1 (.refl _ _) rs1
    have r1' := r1
    simp only [RD] at r1'
    obtain ⟨a, vs, ob, rfl, hq, hd, rr⟩ := r1'
    refine .inr ⟨a, vs, ob, rfl, hq, hd, args q3 ?_⟩
    intro m2 S2 H2 k ys rs2 x2 r2 d S' e' fin ey
    simp only [RD] at r2
    obtain ⟨a', vs', ob', ea, hq', hd', rr'⟩ := r2
    cases ea
    subst ey
    unfold fIdx at e'
    dsimp only at e'
    cases z : seqI (.xtp xs) S2 with
    | none => rw [z] at e'; cases e'
    | some ns =>
      rw [z] at e'
      dsimp only at e'
      cases c : ns.contains k with
      | false => rw [c] at e'; cases e'
      | true =>
        rw [c] at e'
        cases e'
        have := intsOf_V rr' z
        subst this
        exact ⟨a, ns, k, rfl, rfl, .inl (.inr ⟨ob', hq'⟩), by simpa using c, fin _ (by simp only [RD])⟩
  · rename_i n
    cases el : lstAt S1 n with
    | none => rw [el] at q2; exact q2.elim
    | some xs =>
      rw [el] at q2
      have q3 := q2 m1 H1 (.refl _ _) rs1
      have r1' := r1
      simp only [RD] at r1'
      obtain ⟨a, rfl, hma⟩ := r1'
      obtain ⟨vs, hq, _⟩ := rs1.lst hma el
      refine .inl ⟨a, vs, rfl, hq, args q3 ?_⟩
      intro m2 S2 H2 k ys rs2 x2 r2 d S' e' fin ey
      simp only [RD] at r2
      obtain ⟨a', ea, hm2⟩ := r2
      cases ea
      subst ey
      unfold fIdx at e'
      dsimp only at e'
      cases z : seqI (.loc n) S2 with
      | none => rw [z] at e'; cases e'
      | some ns =>
        rw [z] at e'
        dsimp only at e'
        cases c : ns.contains k with
        | false => rw [c] at e'; cases e'
        | true =>
          rw [c] at e'
          cases e'
          unfold seqI at z
          dsimp only at z
          cases el2 : lstAt S2 n with
          | none => rw [el2] at z; cases z
          | some zs =>
            rw [el2] at z
            obtain ⟨ws, hq2, rr2⟩ := rs2.lst hm2 el2
            have := intsOf_V rr2 z
            subst this
            exact ⟨a, ns, k, rfl, rfl, hq2, by simpa using c, fin _ (by simp only [RD])⟩
  · exact q2.elim⟩
end
/-! ### t < u over ints, or tuples of ints -/
def fLtT : F2 := fun x y S => match x, y with
  | .tup xs, .tup ys => match intsOf xs with
    | some ns => match intsOf ys with
      | some ms => some (.bl (HT.lexLt ns ms), S)
      | none => none
    | none => none
  | _, _ => fLt x y S
section
variable [HasT] {X : Cx}
theorem b_ltT (x y : D) (S : Sto) (d : D) (S' : Sto) (h : fLtT x y S = some (d, S')) : ∃ b, d = .bl b := by
  unfold fLtT at h
  split at h
  · split at h
    · split at h
      · cases h; exact ⟨_, rfl⟩
      · cases h
    · cases h
  · exact b_lt x y S d S' h
theorem r_ltT {k : Nat} (hr : Rm k X.A) : OpR X (compareOp .Lt) (rF2 X.K fLtT) := by
  intro pins s σ H x y v u Q I rx ry h
  have h0 := h
  obtain ⟨m, S, d1, d2, d, S', rs, r1, r2, e, fin⟩ := h
  unfold fLtT at e
  split at e
  · split at e
    · rename_i ns en
      split at e
      · rename_i ms em
        cases e
        simp only [RD] at r1 r2
        obtain ⟨a, vs, rfl, q1, t1⟩ := r1
        obtain ⟨b, ws, rfl, q2, t2⟩ := r2
        have e1 := intsOf_V t1 en
        have e2 := intsOf_V t2 em
        subst e1 e2
        exact op_ltT (by have := hr.units; omega) pins s σ H _ _ v u Q I rx ry ⟨a, b, ns, ms, rfl, rfl, q1, q2, fin m H _ (.refl _ _) rs (by simp only [RD])⟩
      · cases e
    · cases e
  · exact r_lt pins s σ H x y v u Q I rx ry ⟨m, S, d1, d2, d, S', rs, r1, r2, e, fin⟩
end
section
variable {S : Sto} {σ : Env} {Q : D → Sto → Prop} {E : Xc → Sto → Prop}
theorem w_co {f : Env → M D} (w : wp (f σ) S (fun d S1 => Q (asT d) S1) E) : wp (eCo f σ) S Q E := wp_bnd (w.imp (fun _ _ z => z) fun _ _ z => z)
theorem w_xtp {g : Env → M (List D)} (w : wp (g σ) S (fun ds S1 => wz ds.length (Q (.xtp ds) S1)) E) : wp (eXtp g σ) S Q E :=
  wp_bnd (w.imp (fun ds S1 z => wp_up (wo_of (by unfold mkXtp; rw [Nat.ble_eq_true_of_le z.1]) z.2)) fun _ _ z => z)
theorem w_idx {f : Env → M D} {g : Env → M (List D)} (w : wp (f σ) S (fun x S1 => wp (chkX x) S1 (fun _ S2 => wp (g σ) S2 (fun ds S3 => wo (fIdx x ds S3) Q) E) E) E) : wp (eIdx f g σ) S Q E :=
  wp_bnd (w.imp (fun _ _ z => wp_bnd (z.imp (fun _ _ z => wp_bnd (z.imp (fun _ _ z => wp_up z) fun _ _ z => z)) fun _ _ z => z)) fun _ _ z => z)
theorem w_chkXt {xs : List D} {Q : Unit → Sto → Prop} (h : Q () S) : wp (chkX (.xtp xs)) S Q E := h
theorem w_chkXl {n : Nat} {xs : List D} {Q : Unit → Sto → Prop} (e : S.get n = some (.lst xs)) (h : Q () S) : wp (chkX (.loc n)) S Q E := by
  have el : lstAt S n = some xs := by unfold lstAt; rw [e]
  unfold wp chkX
  dsimp only
  rw [el]
  exact h
theorem z_idxT {ns : List Int} {k : Int} (h : k ∈ ns) (q : Q (.int (ns.idxOf k : Nat)) S) : wo (fIdx (.xtp (ns.map .int)) [.int k] S) Q := by
  refine wo_of (S' := S) ?_ q
  unfold fIdx seqI
  dsimp only
  rw [intsOf_map]
  dsimp only
  rw [show ns.contains k = true by simpa using h]
theorem z_idxL {n : Nat} {ns : List Int} {k : Int} (g : S.get n = some (.lst (ns.map .int))) (h : k ∈ ns) (q : Q (.int (ns.idxOf k : Nat)) S) : wo (fIdx (.loc n) [.int k] S) Q := by
  refine wo_of (S' := S) ?_ q
  unfold fIdx seqI lstAt
  dsimp only
  rw [g]
  dsimp only [Option.bind]
  rw [intsOf_map]
  dsimp only
  rw [show ns.contains k = true by simpa using h]
end
end L2.Z

set_option Elab.async false
set_option linter.all false
set_option maxRecDepth 100000
set_option maxHeartbeats 4000000
/-! ZF: a call over data without places runs as with an empty store. -/
namespace L2.Z
open PySem PySem.Spec PyProof.Rows
mutual
def clo : D → Bool
  | .non => true
  | .bl _ => true
  | .int _ => true
  | .str _ => true
  | .tup ds => cloL ds
  | .xtp ds => cloL ds
  | .xc _ _ ds => cloL ds
  | .loc _ => false
  | .lam _ _ _ _ _ => false
  | .scr _ => false
  | .adr _ => false
def cloL : List D → Bool
  | [] => true
  | d :: ds => match clo d with
    | true => cloL ds
    | false => false
end
def atNew (m : M D) : M D := fun S => match m ⟨[], 0⟩ with
  | .ok d _ => match clo d with
    | true => .ok d S
    | false => .bad
  | .exc x _ => match cloL x.ds with
    | true => .exc x S
    | false => .bad
  | .bad => .bad
def cN (c : Orc) : Orc := fun i ds S => match cloL ds with
  | true => atNew (c i ds) S
  | false => .bad
mutual
theorem RD.clo {K : PySem.W.Frag} {m m' : List Addr} {H : Hp} : ∀ (d : D) (v : V), clo d = true → RD K m H d v → RD K m' H d v
  | .non, v, _, h => by simp only [RD] at h ⊢; exact h
  | .bl b, v, _, h => by simp only [RD] at h ⊢; exact h
  | .int i, v, _, h => by simp only [RD] at h ⊢; exact h
  | .str s, v, _, h => by simp only [RD] at h ⊢; exact h
  | .tup ds, v, c, h => by
    simp only [RD] at h ⊢
    simp only [Z.clo] at c
    obtain ⟨a, vs, e, q, r⟩ := h
    exact ⟨a, vs, e, q, RDs.clo ds vs c r⟩
  | .xtp ds, v, c, h => by
    simp only [RD] at h ⊢
    simp only [Z.clo] at c
    obtain ⟨a, vs, ob, e, q, z, r⟩ := h
    exact ⟨a, vs, ob, e, q, z, RDs.clo ds vs c r⟩
  | .xc _ _ ds, v, c, h => by
    simp only [RD] at h ⊢
    simp only [Z.clo] at c
    obtain ⟨a, dx, vs, e, q1, q2, r⟩ := h
    exact ⟨a, dx, vs, e, q1, q2, RDs.clo ds vs c r⟩
  | .loc _, v, c, h => by simp only [Z.clo] at c; cases c
  | .lam _ _ _ _ _, v, c, h => by simp only [Z.clo] at c; cases c
  | .scr _, v, c, h => by simp only [Z.clo] at c; cases c
  | .adr _, v, c, h => by simp only [Z.clo] at c; cases c
theorem RDs.clo {K : PySem.W.Frag} {m m' : List Addr} {H : Hp} : ∀ (ds : List D) (vs : List V), cloL ds = true → RDs K m H ds vs → RDs K m' H ds vs
  | [], vs, _, h => by simp only [RDs] at h ⊢; exact h
  | d :: ds, vs, c, h => by
    simp only [RDs] at h ⊢
    simp only [cloL] at c
    obtain ⟨v, r, e, q, t⟩ := h
    cases z : Z.clo d with
    | false => rw [z] at c; cases c
    | true =>
      rw [z] at c
      exact ⟨v, r, e, RD.clo d v z q, RDs.clo ds r c t⟩
end
section
variable [HasT]
theorem RS.empty {K : PySem.W.Frag} {m : List Addr} {S : Sto} {H : Hp} (rs : RS K m S H) : RS K [] ⟨[], 0⟩ H := ⟨rs.tb, by simp, rfl, fun i a h => by simp at h⟩
theorem RS.back {K : PySem.W.Frag} {m m1 : List Addr} {S S1 : Sto} {H H1 : Hp} (rs : RS K m S H) (x : Ext [] H m1 H1) (rs1 : RS K m1 S1 H1) : Ext m H m H1 ∧ RS K m S H1 := by
  have e : Ext m H m H1 := ⟨List.prefix_refl _, x.le, fun b o h t n => ⟨(x.keep b o h t (by simp)).1, n⟩⟩
  refine ⟨e, rs1.tb, rs.nd, rs.len, fun i a h => ?_⟩
  obtain ⟨o, g, q⟩ := rs.at_ i a h
  obtain ⟨u, eu⟩ := q.some
  have hp := q.plain u eu
  have h1 := (x.keep a u eu (fun ps z => hp (.inl ⟨ps, z⟩)) (by simp)).1
  refine ⟨o, g, ?_⟩
  rw [h1, ← eu]
  exact q.mono e
theorem spZ_new {K : PySem.W.Frag} {mg : Str → Option Value} {n i : Nat} {c : Orc} {vs : List V} {H : Hp} {Q : VK} {E : XK} (h : spZ K mg n (cN c i) vs H Q E) : spZ K mg n (c i) vs H Q E := by
  obtain ⟨m, S, ds, hl, rs, r, p⟩ := h
  unfold cN at p
  cases cl : cloL ds with
  | false => rw [cl] at p; exact p.elim
  | true =>
    rw [cl] at p
    refine ⟨[], ⟨[], 0⟩, ds, hl, rs.empty, RDs.clo ds vs cl r, ?_⟩
    unfold atNew at p
    dsimp only at p
    cases e : c i ds ⟨[], 0⟩ with
    | bad => rw [e] at p; exact p
    | ok d S1 =>
      rw [e] at p
      dsimp only at p
      cases cd : clo d with
      | false => rw [cd] at p; exact p.elim
      | true =>
        rw [cd] at p
        intro m1 H1 x1 rs1 v rv
        obtain ⟨e1, r1⟩ := rs.back x1 rs1
        exact p m H1 e1 r1 v (RD.clo d v cd rv)
    | exc x S1 =>
      rw [e] at p
      dsimp only at p
      cases cd : cloL x.ds with
      | false => rw [cd] at p; exact p.elim
      | true =>
        rw [cd] at p
        intro m1 H1 c1 d1 x1 rs1 rx
        obtain ⟨e1, r1⟩ := rs.back x1 rs1
        obtain ⟨dd, ws, g1, g2, g3, g4, g5⟩ := rx
        exact p m H1 c1 d1 e1 r1 ⟨dd, ws, g1, g2, g3, g4, RDs.clo _ _ cd g5⟩
theorem Kn.new {P : Program} {w : World} {K : PySem.W.Frag} {mg : Str → Option Value} {base : Heap} {k i n : Nat} {x : Str} {c : Orc} (F : Kn P w K mg base k x n (c i)) : Kn P w K mg base k x n (cN c i) := by
  obtain ⟨⟨fa, fd, ps, hl, F1, hm, hk, hb⟩, ar⟩ := F
  refine ⟨⟨fa, fd, ps, hl, ⟨fun vs H Q E h => F1.len vs H Q E (spZ_new h), fun A outer s H args us vs Q E hr e0 b r h => F1.run A outer s H args us vs Q E hr e0 b r (spZ_new h)⟩, hm, hk, hb⟩, fun ds S hn => ?_⟩
  unfold cN
  cases cl : cloL ds with
  | false => rfl
  | true =>
    dsimp only
    unfold atNew
    rw [ar ds ⟨[], 0⟩ hn]
end
/-! ### what it answers -/
theorem w_new {c : Orc} {i : Nat} {ds : List D} {d : D} {S S1 : Sto} {Q : D → Sto → Prop} {E : Xc → Sto → Prop} (h1 : cloL ds = true) (h : c i ds ⟨[], 0⟩ = .ok d S1) (h2 : clo d = true) (q : Q d S) : wp (cN c i ds) S Q E := by
  unfold wp cN atNew
  rw [h1]
  dsimp only
  rw [h]
  dsimp only
  rw [h2]
  exact q
theorem w_newX {c : Orc} {i : Nat} {ds : List D} {x : Xc} {S S1 : Sto} {Q : D → Sto → Prop} {E : Xc → Sto → Prop} (h1 : cloL ds = true) (h : c i ds ⟨[], 0⟩ = .exc x S1) (h2 : cloL x.ds = true) (q : E x S) : wp (cN c i ds) S Q E := by
  unfold wp cN atNew
  rw [h1]
  dsimp only
  rw [h]
  dsimp only
  rw [h2]
  exact q
/-- from what is asked at the empty store -/
theorem wp.new {c : Orc} {i : Nat} {ds : List D} {S : Sto} {R Q : D → Sto → Prop} {E0 E : Xc → Sto → Prop} (h1 : cloL ds = true) (w : wp (c i ds) ⟨[], 0⟩ R E0) (h : ∀ d S', R d S' → clo d = true ∧ Q d S) (hx : ∀ x S', E0 x S' → cloL x.ds = true ∧ E x S) : wp (cN c i ds) S Q E := by
  unfold wp at w
  unfold wp cN atNew
  rw [h1]
  dsimp only
  cases e : c i ds ⟨[], 0⟩ with
  | ok d S1 =>
    rw [e] at w
    obtain ⟨a, b⟩ := h _ _ w
    dsimp only
    rw [a]
    exact b
  | exc x S1 =>
    rw [e] at w
    obtain ⟨a, b⟩ := hx _ _ w
    dsimp only
    rw [a]
    exact b
  | bad => rw [e] at w; exact w.elim
/-! ### statements that run as with an empty store; what they leave of the names is told -/
def toO (τ : Nat → Addr) (d : D) : Option D := match clo d with
  | true => some d
  | false => match d with
    | .loc i => some (.adr (τ i))
    | _ => none
def envT (τ : Nat → Addr) (σ : Env) : Env := σ.map fun o => o.bind (toO τ)
def cloF : Fl → Bool
  | .nx => true
  | .rt d => clo d
  | _ => false
def prj (ks : List Nat) (r : Res (Fl × Env)) : Option (Fl × Nat × List (Option (Option D))) := match r with
  | .ok (fl, σ') _ => some (fl, σ'.length, ks.map fun i => σ'[i]?)
  | _ => none
def keepD (d : D) : Option D := match clo d with
  | true => some d
  | false => match d with
    | .loc i => some (.loc i)
    | _ => none
def kept (ks : List Nat) (σ : Env) : Env := σ.zipIdx.map fun p => match ks.contains p.2 with
  | true => p.1.bind keepD
  | false => none
/-- it ends so, whatever the other places are -/
def NewE (ks : List Nat) (g : Sm) (σ : Env) (fl : Fl) : Prop := ∀ τ, prj ks (g (envT τ σ) ⟨[], 0⟩) = some (fl, σ.length, ks.map fun i => (envT τ σ)[i]?)
open Classical in
noncomputable def sNew (ks : List Nat) (g : Sm) : Sm := fun σ S => if h : ∃ fl, cloF fl = true ∧ NewE ks g σ fl then .ok (Classical.choose h, kept ks σ) S else .bad
theorem sNew_eq {ks : List Nat} {g : Sm} {σ : Env} {fl : Fl} {S : Sto} (hc : cloF fl = true) (h : NewE ks g σ fl) : sNew ks g σ S = .ok (fl, kept ks σ) S := by
  have ex : ∃ fl, cloF fl = true ∧ NewE ks g σ fl := ⟨fl, hc, h⟩
  unfold sNew
  rw [dif_pos ex]
  have e1 := (Classical.choose_spec ex).2 fun _ => 0
  have e2 := h fun _ => 0
  rw [e1] at e2
  injection e2 with e3
  injection e3 with e4 _
  rw [e4]
theorem ws_new {ks : List Nat} {g : Sm} {σ σ1 : Env} {fl : Fl} {S : Sto} {R : Rs} (hc : cloF fl = true) (h : NewE ks g σ fl) (hk : kept ks σ = σ1) (q : R fl σ1 S) : ws (sNew ks g) σ S R := by
  unfold ws
  rw [sNew_eq hc h, hk]
  exact q
theorem kept_len (ks : List Nat) (σ : Env) : (kept ks σ).length = σ.length := by simp [kept]
theorem keepD_eq {d d1 : D} (h : keepD d = some d1) : d1 = d ∧ (clo d = true ∨ ∃ i, d = .loc i) := by
  unfold keepD at h
  cases c : clo d with
  | true => rw [c] at h; cases h; exact ⟨rfl, .inl rfl⟩
  | false =>
    rw [c] at h
    dsimp only at h
    split at h
    · cases h; exact ⟨rfl, .inr ⟨_, rfl⟩⟩
    · cases h
theorem kept_at {ks : List Nat} {σ : Env} {i : Nat} {d : D} (h : (kept ks σ)[i]? = some (some d)) : i ∈ ks ∧ σ[i]? = some (some d) ∧ (clo d = true ∨ ∃ j, d = .loc j) := by
  unfold kept at h
  rw [List.getElem?_map, List.getElem?_zipIdx] at h
  cases e : σ[i]? with
  | none => rw [e] at h; simp at h
  | some o =>
    rw [e] at h
    simp only [Option.map_some, Nat.zero_add, Option.some.injEq] at h
    cases c : ks.contains i with
    | false => rw [c] at h; cases h
    | true =>
      rw [c] at h
      dsimp only at h
      cases o with
      | none => cases h
      | some d0 =>
        obtain ⟨rfl, h2⟩ := keepD_eq h
        exact ⟨by simpa using c, rfl, h2⟩
theorem prj_at {ks : List Nat} {fl fl' : Fl} {σ1 : Env} {S1 : Sto} {n : Nat} {l : List (Option (Option D))} (h : prj ks (.ok (fl, σ1) S1) = some (fl', n, l)) : fl = fl' ∧ σ1.length = n ∧ (ks.map fun i => σ1[i]?) = l := by
  unfold prj at h
  injection h with h
  injection h with h1 h2
  injection h2 with h2 h3
  exact ⟨h1, h2, h3⟩
section
variable [HasT]
theorem RE.toO {K : PySem.W.Frag} {m : List Addr} {H : Hp} {σ : Env} {σv : St} (re : RE K m H σ σv) : RE K [] H (envT (fun i => m.getD i 0) σ) σv := by
  refine ⟨by simp [envT, re.len], fun i d e => ?_⟩
  unfold envT at e
  rw [List.getElem?_map] at e
  cases eo : σ[i]? with
  | none => rw [eo] at e; cases e
  | some o =>
    rw [eo] at e
    cases o with
    | none => cases e
    | some d0 =>
      obtain ⟨v, ev, rv⟩ := re.at_ i d0 eo
      simp only [Option.map_some, Option.bind_some, Option.some.injEq] at e
      refine ⟨v, ev, ?_⟩
      unfold Z.toO at e
      cases c : clo d0 with
      | true =>
        rw [c] at e
        dsimp only at e
        injection e with e
        subst e
        exact RD.clo _ _ c rv
      | false =>
        rw [c] at e
        dsimp only at e
        split at e
        · rename_i j
          injection e with e
          subst e
          simp only [RD] at rv ⊢
          obtain ⟨a, rfl, hm⟩ := rv
          rw [List.getD_eq_getElem?_getD, hm]
          rfl
        · cases e
theorem qss_new {X : Cx} {ss : List Stmt} {g : Sm} (ks : List Nat) (h : QSs X ss g) : QSs X ss (sNew ks g) := ⟨fun W tk m S σ σv H Dn rs re p => by
  by_cases ex : ∃ fl, cloF fl = true ∧ NewE ks g σ fl
  · obtain ⟨fl, hc, hn⟩ := ex
    rw [sNew_eq hc hn] at p
    refine h.run W tk [] ⟨[], 0⟩ (envT (fun i => m.getD i 0) σ) σv H Dn rs.empty re.toO ?_
    have e := hn fun i => m.getD i 0
    cases er : g (envT (fun i => m.getD i 0) σ) ⟨[], 0⟩ with
    | bad => rw [er] at e; cases e
    | exc _ _ => rw [er] at e; cases e
    | ok q S1 =>
      obtain ⟨fl1, σ1⟩ := q
      rw [er] at e
      obtain ⟨rfl, e2, e3⟩ := prj_at e
      cases fl1 with
      | bk => cases hc
      | ct => cases hc
      | xc _ => cases hc
      | rt d =>
        intro m1 H1 v x1 rs1 rv
        obtain ⟨x2, rs2⟩ := rs.back x1 rs1
        exact p m H1 v x2 rs2 (RD.clo d v hc rv)
      | nx =>
        intro m1 H1 σv' x1 rs1 re1
        obtain ⟨x2, rs2⟩ := rs.back x1 rs1
        refine p m H1 σv' x2 rs2 ⟨by rw [kept_len, ← e2]; exact re1.len, fun i d ei => ?_⟩
        obtain ⟨hi, es, hd2⟩ := kept_at ei
        have e4 : σ1[i]? = (envT (fun i => m.getD i 0) σ)[i]? := by
          have := List.map_inj_left.mp e3 i hi
          exact this
        have e5 : (envT (fun i => m.getD i 0) σ)[i]? = some (toO (fun i => m.getD i 0) d) := by
          unfold envT
          rw [List.getElem?_map, es]
          rfl
        rw [e5] at e4
        have hd := re.at_ i d es
        cases c : clo d with
        | true =>
          have : toO (fun i => m.getD i 0) d = some d := by unfold Z.toO; rw [c]
          rw [this] at e4
          obtain ⟨v, ev, rv⟩ := re1.at_ i d e4
          exact ⟨v, ev, RD.clo d v c rv⟩
        | false =>
          rcases hd2 with hd2 | ⟨j, rfl⟩
          · rw [c] at hd2; cases hd2
          · have : toO (fun i => m.getD i 0) (.loc j) = some (.adr (m.getD j 0)) := rfl
            rw [this] at e4
            obtain ⟨v, ev, rv⟩ := re1.at_ i _ e4
            obtain ⟨w, _, rw⟩ := hd
            simp only [RD] at rv rw ⊢
            obtain ⟨a, _, hm⟩ := rw
            refine ⟨v, ev, a, ?_, hm⟩
            rw [rv, List.getD_eq_getElem?_getD, hm]
            rfl
  · unfold sNew at p
    rw [dif_neg ex] at p
    exact p.elim⟩
theorem qs_new {X : Cx} {st : Stmt} {g : Sm} (ks : List Nat) (h : QS X st g) : QS X st (sNew ks g) := ⟨fun W tk m S σ σv H Dn rs re p => by
  by_cases ex : ∃ fl, cloF fl = true ∧ NewE ks g σ fl
  · obtain ⟨fl, hc, hn⟩ := ex
    rw [sNew_eq hc hn] at p
    refine h.run W tk [] ⟨[], 0⟩ (envT (fun i => m.getD i 0) σ) σv H Dn rs.empty re.toO ?_
    have e := hn fun i => m.getD i 0
    cases er : g (envT (fun i => m.getD i 0) σ) ⟨[], 0⟩ with
    | bad => rw [er] at e; cases e
    | exc _ _ => rw [er] at e; cases e
    | ok q S1 =>
      obtain ⟨fl1, σ1⟩ := q
      rw [er] at e
      obtain ⟨rfl, e2, e3⟩ := prj_at e
      cases fl1 with
      | bk => cases hc
      | ct => cases hc
      | xc _ => cases hc
      | rt d =>
        intro m1 H1 v x1 rs1 rv
        obtain ⟨x2, rs2⟩ := rs.back x1 rs1
        exact p m H1 v x2 rs2 (RD.clo d v hc rv)
      | nx =>
        intro m1 H1 σv' x1 rs1 re1
        obtain ⟨x2, rs2⟩ := rs.back x1 rs1
        refine p m H1 σv' x2 rs2 ⟨by rw [kept_len, ← e2]; exact re1.len, fun i d ei => ?_⟩
        obtain ⟨hi, es, hd2⟩ := kept_at ei
        have e4 : σ1[i]? = (envT (fun i => m.getD i 0) σ)[i]? := by
          have := List.map_inj_left.mp e3 i hi
          exact this
        have e5 : (envT (fun i => m.getD i 0) σ)[i]? = some (toO (fun i => m.getD i 0) d) := by
          unfold envT
          rw [List.getElem?_map, es]
          rfl
        rw [e5] at e4
        have hd := re.at_ i d es
        cases c : clo d with
        | true =>
          have : toO (fun i => m.getD i 0) d = some d := by unfold Z.toO; rw [c]
          rw [this] at e4
          obtain ⟨v, ev, rv⟩ := re1.at_ i d e4
          exact ⟨v, ev, RD.clo d v c rv⟩
        | false =>
          rcases hd2 with hd2 | ⟨j, rfl⟩
          · rw [c] at hd2; cases hd2
          · have : toO (fun i => m.getD i 0) (.loc j) = some (.adr (m.getD j 0)) := rfl
            rw [this] at e4
            obtain ⟨v, ev, rv⟩ := re1.at_ i _ e4
            obtain ⟨w, _, rw⟩ := hd
            simp only [RD] at rv rw ⊢
            obtain ⟨a, _, hm⟩ := rw
            refine ⟨v, ev, a, ?_, hm⟩
            rw [rv, List.getD_eq_getElem?_getD, hm]
            rfl
  · unfold sNew at p
    rw [dif_neg ex] at p
    exact p.elim⟩
end
theorem re_lst1 {d0 : D} {f f' : Env → M D} (h : Re d0 f f') : Re d0 (eLst (aCons f aNil)) (eLst (aCons f' aNil)) := fun σ S => by
  unfold eLst aCons bnd
  dsimp only
  rw [h σ S]
  cases f' (some .non :: σ) S <;> rfl
/-- what is known of a run's end, by a test -/
def okB (r : Res D) (t : D → Bool) : Bool := match r with
  | .ok d _ => t d
  | _ => false
def exB (r : Res D) (t : Xc → Bool) : Bool := match r with
  | .exc x _ => t x
  | _ => false
end L2.Z

set_option Elab.async false
set_option linter.all false
set_option maxRecDepth 100000
set_option maxHeartbeats 4000000
/-! the denotations of the law's text -/
namespace L2.Z.Lw
open PySem PySem.Spec PyProof.Rows
noncomputable section
def xcs : List Str := ["BadNumber", "BadPairs"]
def subL : List ((Str × Str) × Bool) := [(("BadNumber", "BadNumber"), true), (("BadNumber", "BadPairs"), false), (("BadPairs", "BadNumber"), false), (("BadPairs", "BadPairs"), true)]
def subT (x y : Str) : Option Bool := subL.lookup (x, y)
abbrev i_is_integer : Nat := 0
abbrev i_is_between : Nat := 1
abbrev i_is_pair : Nat := 2
abbrev i_are_pairs : Nat := 3
abbrev i_rows_along : Nat := 4
abbrev i_common_pairs : Nat := 5
abbrev i_two_rows : Nat := 6
abbrev i_told_back : Nat := 7
abbrev i__law_mixed : Nat := 8
abbrev i__law_begin : Nat := 9
abbrev i__law_draw : Nat := 10
abbrev i__law_in : Nat := 11
abbrev i__law_out : Nat := 12
abbrev i__law_turned : Nat := 13
abbrev i__law_early : Nat := 14
abbrev i__law_heard : Nat := 15
abbrev i__law_pairs : Nat := 16
abbrev i__law_are_pairs : Nat := 17
abbrev i__law_back_right : Nat := 18
abbrev i__law_back_is : Nat := 19
abbrev i_law : Nat := 20
def b_is_integer (c : Orc) : Sm := sRet (eAnd (e1 (fIsi .int) (eVar 0)) (eNot (e1 (fIsi .bool) (eVar 0))))
def b_is_between (c : Orc) : Sm := sRet (eAnd (eCall c i_is_integer (aCons (eVar 0) (aNil))) (eChain fLe fLe (eVar 1) (eVar 0) (eVar 2)))
def b_is_pair (c : Orc) : Sm := sSeq (sIf (tOrM (tNotM (tV (e1 (fIsi .tuple) (eVar 1)))) (tOrM (tV (e2 fNe (eCB fLen (aCons (eVar 1) (aNil))) (eC (.int 2)))) (tNotM (tV (eCB fAll (aCons (eLc [2] (iSeq (eVar 1)) (gN 2) (tYesM) (eCall c i_is_between (aCons (eVar 2) (aCons (eC (.int 0)) (aCons (e2 fSub (eVar 0) (eC (.int 1))) (aNil)))))) (aNil))))))) (sRet (eC (.bl false))) (sNil)) (sRet (e2 fNe (e2 fIx (eVar 1) (eC (.int 0))) (e2 fIx (eVar 1) (eC (.int 1)))))
def b_are_pairs (c : Orc) : Sm := sSeq (sIf (tOrM (tNotM (tV (e1 (fIsi .tuple) (eVar 1)))) (tNotM (tV (eCB fAll (aCons (eLc [2] (iSeq (eVar 1)) (gN 2) (tYesM) (eCall c i_is_pair (aCons (eVar 0) (aCons (eVar 2) (aNil))))) (aNil)))))) (sRet (eC (.bl false))) (sNil)) (sSeq (sIf (tNotM (tV (eCB fAll (aCons (eLc [2, 3] (iZp (aCons (eVar 1) (aCons (eSl (eVar 1) (some (eC (.int 1))) none) (aNil)))) (gT (gCons' (gN 2) (gCons' (gN 3) (gNil')))) (tYesM) (e2 fLtT (eVar 2) (eVar 3))) (aNil))))) (sRet (eC (.bl false))) (sNil)) (sSeq (sFor (iSeq (eVar 1)) (gT (gCons' (gN 2) (gCons' (gN 3) (gNil')))) (sIf (tNotM (tV (eCB fAll (aCons (eLc [4, 5] (iSeq (eVar 1)) (gT (gCons' (gN 4) (gCons' (gN 5) (gNil')))) (tV (e2 fEq (eVar 4) (eVar 3))) (e2 fIn (eTup (aCons (eVar 2) (aCons (eVar 5) (aNil)))) (eVar 1))) (aNil))))) (sRet (eC (.bl false))) (sNil))) (sRet (eC (.bl true)))))
def b_rows_along (c : Orc) : Sm := sSeq (sIf (tV (e2 fEq (eCB fLen (aCons (eCo (eVar 2)) (aNil))) (eVar 0))) (sRet (eLst (aCons (eVar 2) aNil))) (sNil)) (sSeq (sSet 3 (eLst (aNil))) (sSeq (sFor (iRng1' (aCons (eVar 0) (aNil))) (gN 4) (sIf (tAndM (tV (e2 fNotIn (eVar 4) (eCo (eVar 2)))) (tV (eCB fAll (aCons (eLc [5, 6] (iSeq (eVar 1)) (gT (gCons' (gN 5) (gCons' (gN 6) (gNil')))) (tV (e2 fEq (eVar 6) (eVar 4))) (e2 fIn (eVar 5) (eCo (eVar 2)))) (aNil))))) (sDrop (eM fExt (eVar 3) (aCons (eCall c i_rows_along (aCons (eVar 0) (aCons (eVar 1) (aCons (eXtp (aStar (eCo (eVar 2)) (aCons (eVar 4) (aNil)))) (aNil))))) (aNil)))) (sNil))) (sRet (eVar 3))))
def b_common_pairs (c : Orc) : Sm := sSeq (sSet 2 (eLst (aNil))) (sSeq (sFor (iEnm (aCons (eCo (eVar 0)) (aNil))) (gT (gCons' (gN 3) (gCons' (gN 4) (gNil')))) (sDrop (eM fExt (eVar 2) (aCons (eLc [5] (iSeq (eSl (eCo (eVar 0)) (some (e2 fAdd (eVar 3) (eC (.int 1)))) none)) (gN 5) (tV (e2 fLt (eIdx (eVar 1) (aCons (eVar 4) (aNil))) (eIdx (eVar 1) (aCons (eVar 5) (aNil))))) (eTup (aCons (eVar 4) (aCons (eVar 5) (aNil))))) (aNil))))) (sRet (eVar 2)))
def b_two_rows (c : Orc) : Sm := sSeq (sSet 2 (eCall c i_rows_along (aCons (eVar 0) (aCons (eVar 1) (aCons (eXtp (aNil)) (aNil)))))) (sSeq (sFor (iSeq (eVar 2)) (gN 3) (sFor (iSeq (eVar 2)) (gN 4) (sIf (tV (e2 fEq (eCB fLen (aCons (eCall c i_common_pairs (aCons (eVar 3) (aCons (eVar 4) (aNil)))) (aNil))) (eCB fLen (aCons (eVar 1) (aNil))))) (sRet (eTup (aCons (eVar 3) (aCons (eVar 4) (aNil))))) (sNil)))) (sRet (eC .non)))
def b_told_back (c : Orc) : Sm := sSeq (sIf (tNotM (tV (eCall c i_is_between (aCons (eVar 0) (aCons (eC (.int 0)) (aCons (eC (.int 5)) (aNil))))))) (sRaise "BadNumber" ["given"] (aCons (eVar 0) (aNil))) (sNil)) (sSeq (sIf (tNotM (tV (eCall c i_are_pairs (aCons (eVar 0) (aCons (eVar 1) (aNil)))))) (sRaise "BadPairs" ["given"] (aCons (eVar 1) (aNil))) (sNil)) (sSeq (sUn (gT (gCons' (gN 4) (gCons' (gN 5) (gNil')))) (eCall c i_two_rows (aCons (eVar 0) (aCons (eVar 1) (aNil))))) (sSeq (sSet 2 (eLst (aNil))) (sSeq (sFor (iRng1' (aCons (eVar 0) (aNil))) (gN 3) (sSeq (sPar 6 7 (aCons (eIdx (eVar 4) (aCons (eVar 3) (aNil))) (aCons (e2 fSub (e2 fMul (eC (.int 2)) (eVar 0)) (eIdx (eVar 5) (aCons (eVar 3) (aNil)))) (aNil)))) (sDrop (eM fApp (eVar 2) (aCons (eTup (aCons (eTup (aCons (eVar 6) (aCons (eVar 6) (aNil)))) (aCons (eTup (aCons (eVar 7) (aCons (eVar 7) (aNil)))) (aNil)))) (aNil)))))) (sRet (eTup (aCons (eCB fTuple (aCons (eVar 2) (aNil))) (aCons (eTup (aNil)) (aNil)))))))))
def b__law_mixed (c : Orc) : Sm := sSeq (sSet 0 (e2 fMod (eCB fInt (aCons (eVar 0) (aNil))) (eC (.int 2147483647)))) (sRet (e2 fMod (e2 fMul (e2 fMod (e2 fAdd (e2 fAdd (e2 fMul (eVar 0) (e2 fAdd (eC (.int 48271)) (e2 fMul (e2 fMul (eC (.int 2)) (eVar 1)) (eVar 1)))) (e2 fMul (eC (.int 69621)) (eVar 1))) (eC (.int 11))) (eC (.int 2147483647))) (eC (.int 69621))) (eC (.int 2147483629))))
def b__law_begin (c : Orc) : Sm := sSeq (sSet 1 (eIf (tV (e2 fNe (eVar 0) (eLst (aNil)))) (eCB fList (aCons (eVar 0) (aNil))) (eLst (aCons (eC (.int 0)) (aNil))))) (sRet (eDict [(eC (.str "cells"), eVar 1), (eC (.str "lefts"), eLc [2] (iSeq (eVar 1)) (gN 2) (tYesM) (eIf (tV (e2 fGe (eVar 2) (e2 fPow (eC (.int 10)) (eC (.int 18))))) (eVar 2) (eC (.int 0)))), (eC (.str "at"), eC (.int 0)), (eC (.str "room"), eC (.int 0))]))
def b__law_draw (c : Orc) : Sm := sSeq (sSet 2 (e2 fIx (eVar 0) (eC (.str "at")))) (sSeq (sSub (eVar 0) (eC (.str "at")) (e2 fAdd (eVar 2) (eC (.int 1)))) (sSeq (sSet 3 (e2 fMod (eCB fInt (aCons (eVar 2) (aNil))) (eCB fLen (aCons (e2 fIx (eVar 0) (eC (.str "cells"))) (aNil))))) (sSeq (sSet 4 (e2 fIx (e2 fIx (eVar 0) (eC (.str "lefts"))) (eVar 3))) (sSeq (sIf (tV (e2 fGt (eVar 4) (eC (.int 0)))) (sSeq (sSub (e2 fIx (eVar 0) (eC (.str "lefts"))) (eVar 3) (e2 fDiv (eVar 4) (eVar 1))) (sRet (e2 fMod (eCB fInt (aCons (eVar 4) (aNil))) (eVar 1)))) (sNil)) (sSeq (sSet 5 (eCall c i__law_mixed (aCons (eCall c i__law_mixed (aCons (e2 fIx (e2 fIx (eVar 0) (eC (.str "cells"))) (eVar 3)) (aCons (eVar 2) (aNil)))) (aCons (e2 fAdd (eC (.int 40)) (eVar 2)) (aNil))))) (sRet (e2 fMod (e2 fDiv (eCB fInt (aCons (e2 fAdd (e2 fMul (eVar 5) (eC (.int 2147483647))) (eCall c i__law_mixed (aCons (eVar 5) (aCons (e2 fAdd (eC (.int 7)) (eVar 2)) (aNil))))) (aNil))) (eC (.int 64))) (eVar 1))))))))
def b__law_in (c : Orc) : Sm := sRet (e2 fLt (e2 fIx (e2 fIx (eVar 0) (eC (.int 0))) (eC (.int 1))) (e2 fIx (e2 fIx (eVar 1) (eC (.int 0))) (eC (.int 0))))
def b__law_out (c : Orc) : Sm := sSeq (sIf (tV (e2 fIs (e2 fIx (eVar 0) (eC (.int 1))) (eC .non))) (sRet (eC (.bl false))) (sNil)) (sRet (eOr (e2 fIs (e2 fIx (eVar 1) (eC (.int 1))) (eC .non)) (e2 fLt (e2 fIx (e2 fIx (eVar 0) (eC (.int 1))) (eC (.int 1))) (e2 fIx (e2 fIx (eVar 1) (eC (.int 1))) (eC (.int 0))))))
def b__law_turned (c : Orc) : Sm := sRet (eAnd (eCall c i__law_in (aCons (eVar 0) (aCons (eVar 1) (aNil)))) (eCall c i__law_out (aCons (eVar 1) (aCons (eVar 0) (aNil)))))
def b__law_early (c : Orc) : Sm := sRet (eAnd (e2 fIsNot (e2 fIx (eVar 0) (eC (.int 1))) (eC .non)) (e2 fLt (e2 fIx (e2 fIx (eVar 0) (eC (.int 1))) (eC (.int 1))) (e2 fIx (e2 fIx (eVar 0) (eC (.int 0))) (eC (.int 0)))))
def b__law_heard (c : Orc) (deed : Z.Env → M D) : Sm := sTry subT (sRet (eLst (aCons (deed) (aNil)))) [⟨"BadNumber", 1, sRet (eTup (aCons (eC (.str "number")) (aCons (e1 (fFld xcs "given") (eVar 1)) (aNil))))⟩, ⟨"BadPairs", 1, sRet (eTup (aCons (eC (.str "pairs")) (aCons (e1 (fFld xcs "given") (eVar 1)) (aNil))))⟩]
def b__law_pairs (c : Orc) : Sm := sSeq (sSet 2 (eLst (aCons (e1 fLstR1 (eVar 1)) (aCons (eLst (aNil)) (aNil))))) (sSeq (sSet 3 (e1 fLstR1 (eVar 1))) (sSeq (sWhile 100000 (tV (e2 fNe (eVar 3) (eLst (aNil)))) (sDrop (eM fApp (e2 fIx (eVar 2) (eC (.int 1))) (aCons (eM fPopAt (eVar 3) (aCons (eCall c i__law_draw (aCons (eVar 0) (aCons (eCB fLen (aCons (eVar 3) (aNil))) (aNil)))) (aNil))) (aNil))))) (sSeq (sSet 4 (eLst (aNil))) (sSeq (sFor (iRng1' (aCons (eVar 1) (aNil))) (gN 5) (sFor (iRng1' (aCons (eVar 1) (aNil))) (gN 6) (sIf (tAndM (tV (e2 fLt (eVar 5) (eVar 6))) (tV (e2 fLt (eIdx (e2 fIx (eVar 2) (eC (.int 1))) (aCons (eVar 5) (aNil))) (eIdx (e2 fIx (eVar 2) (eC (.int 1))) (aCons (eVar 6) (aNil)))))) (sDrop (eM fApp (eVar 4) (aCons (eTup (aCons (eVar 5) (aCons (eVar 6) (aNil)))) (aNil)))) (sNil)))) (sSeq (sIf (tV (e2 fEq (eCall c i__law_draw (aCons (eVar 0) (aCons (eC (.int 3)) (aNil)))) (eC (.int 0)))) (sRet (eCB fTuple (aCons (eVar 4) (aNil)))) (sNil)) (sSeq (sUn (gT (gCons' (gN 7) (gCons' (gN 3) (gNil')))) (eTup (aCons (eLst (aNil)) (aCons (e1 fLstR1 (eVar 1)) (aNil))))) (sSeq (sWhile 100000 (tV (e2 fNe (eVar 3) (eLst (aNil)))) (sDrop (eM fApp (eVar 7) (aCons (eM fPopAt (eVar 3) (aCons (eCall c i__law_draw (aCons (eVar 0) (aCons (eCB fLen (aCons (eVar 3) (aNil))) (aNil)))) (aNil))) (aNil))))) (sRet (eCB fTuple (aCons (eCB fSortD (aCons (eLc [5, 6] (iSeq (eVar 4)) (gT (gCons' (gN 5) (gCons' (gN 6) (gNil')))) (tYesM) (eTup (aCons (e2 fIx (eVar 7) (eVar 5)) (aCons (e2 fIx (eVar 7) (eVar 6)) (aNil))))) (aNil))) (aNil)))))))))))
def b__law_are_pairs (c : Orc) : Sm := sSeq (sFor (iSeq (eVar 1)) (gT (gCons' (gN 2) (gCons' (gN 3) (gNil')))) (sIf (tV (e2 fNe (eLc [4, 5] (iSeq (eVar 1)) (gT (gCons' (gN 4) (gCons' (gN 5) (gNil')))) (tAndM (tV (e2 fEq (eVar 4) (eVar 3))) (tV (e2 fNotIn (eTup (aCons (eVar 2) (aCons (eVar 5) (aNil)))) (eVar 1)))) (eC (.int 1))) (eLst (aNil)))) (sRet (eC (.bl false))) (sNil))) (sRet (eC (.bl true)))
def b__law_back_right (c : Orc) : Sm := sSeq (sSet 1 (eCall c i__law_draw (aCons (eVar 0) (aCons (eC (.int 6)) (aNil))))) (sSeq (sSet 2 (eCall c i__law_pairs (aCons (eVar 0) (aCons (eVar 1) (aNil))))) (sSeq (sIf (tAndM (tV (e2 fEq (eCall c i__law_draw (aCons (eVar 0) (aCons (eC (.int 3)) (aNil)))) (eC (.int 0)))) (tV (e2 fNeU (eVar 2) (eTup (aNil))))) (sSeq (sSet 4 (eCall c i__law_draw (aCons (eVar 0) (aCons (eCB fLen (aCons (eVar 2) (aNil))) (aNil))))) (sSet 2 (e2 fAdd (eSl (eVar 2) none (some (eVar 4))) (eSl (eVar 2) (some (e2 fAdd (eVar 4) (eC (.int 1)))) none)))) (sNil)) (sSeq (sIf (tNotM (tV (eCall c i__law_are_pairs (aCons (eVar 1) (aCons (eVar 2) (aNil)))))) (sRet (e2 fEq (eLam 2 (b__law_heard c) (eCall (cN c) i_told_back (aCons (eVar 1) (aCons (eVar 2) (aNil))))) (eTup (aCons (eC (.str "pairs")) (aCons (eVar 2) (aNil)))))) (sNil)) (sSeq (sSet 3 (eCall (cN c) i_told_back (aCons (eVar 1) (aCons (eVar 2) (aNil))))) (sRet (eAnd (e2 fEq (eCB fRepr (aCons (eCall (cN c) i_told_back (aCons (eVar 1) (aCons (eVar 2) (aNil)))) (aNil))) (eCB fRepr (aCons (eVar 3) (aNil)))) (eCall c i__law_back_is (aCons (eVar 1) (aCons (eVar 2) (aCons (eVar 3) (aNil)))))))))))
def b__law_back_is (c : Orc) : Sm := sSeq (sIf (tOrM (tV (e2 fNe (eCB fLen (aCons (e2 fIx (eVar 2) (eC (.int 0))) (aNil))) (eVar 0))) (tV (e2 fNe (eLc [6] (iSeq (e2 fIx (eVar 2) (eC (.int 1)))) (gN 6) (tV (e2 fNe (e2 fIx (eVar 6) (eC (.int 0))) (e2 fIx (eVar 6) (eC (.int 1))))) (eVar 6)) (eLst (aNil))))) (sRet (eC (.bl false))) (sNil)) (sSeq (sSet 3 (eLst (aNil))) (sSeq (sFor (iEnm (aCons (e2 fIx (eVar 2) (eC (.int 0))) (aNil))) (gT (gCons' (gN 4) (gCons' (gN 5) (gNil')))) (sSeq (sIf (tOrM (tV (e2 fNe (eLc [6] (iSeq (eVar 5)) (gN 6) (tAndM (tV (e2 fIsNot (eVar 6) (eC .non))) (tV (e2 fNe (e2 fIx (eVar 6) (eC (.int 0))) (e2 fIx (eVar 6) (eC (.int 1)))))) (eVar 6)) (eLst (aNil)))) (tV (eCall c i__law_early (aCons (eVar 5) (aNil))))) (sRet (eC (.bl false))) (sNil)) (sSet 3 (e2 fAdd (eVar 3) (eLc [7, 8] (iEnm (aCons (e2 fIx (eVar 2) (eC (.int 0))) (aNil))) (gT (gCons' (gN 7) (gCons' (gN 8) (gNil')))) (tV (eCall c i__law_turned (aCons (eVar 5) (aCons (eVar 8) (aNil))))) (eTup (aCons (eVar 4) (aCons (eVar 7) (aNil))))))))) (sRet (e2 fEq (eCB fTuple (aCons (eVar 3) (aNil))) (eVar 1)))))
def b_law (c : Orc) : Sm := sSeq (sSet 1 (eCall c i__law_begin (aCons (eVar 0) (aNil)))) (sSeq (sFor (iRng1' (aCons (e2 fAdd (eC (.int 5)) (eCB fMin2 (aCons (eCB fLen (aCons (eVar 0) (aNil))) (aCons (eC (.int 9)) (aNil))))) (aNil))) (gN 2) (sIf (tNotM (tV (eCall c i__law_back_right (aCons (eVar 1) (aNil))))) (sRet (eC (.bl false))) (sNil))) (sNew [] (sSeq (sFor (iSeq (eTup (aCons (eC .non) (aCons (e1 fNeg (eC (.int 1))) (aCons (eC (.int 6)) (aCons (eC (.bl true)) (aCons (eC (.str "2")) (aCons (eTup (aCons (eC (.int 2)) (aNil))) (aNil))))))))) (gN 3) (sIf (tV (e2 fNe (eCB fRepr (aCons (eLam 2 (b__law_heard c) (eCall c i_told_back (aCons (eVar 3) (aCons (eC .non) (aNil))))) (aNil))) (eCB fRepr (aCons (eTup (aCons (eC (.str "number")) (aCons (eVar 3) (aNil)))) (aNil))))) (sRet (eC (.bl false))) (sNil))) (sSeq (sSet 4 (eLst (aCons (eC .non) (aCons (eLst (aNil)) (aCons (eTup (aCons (eC (.int 0)) (aNil))) (aCons (eTup (aCons (eTup (aCons (eC (.int 0)) (aCons (eC (.int 0)) (aNil)))) (aNil))) (aCons (eTup (aCons (eTup (aCons (eC (.int 0)) (aCons (eC (.int 3)) (aNil)))) (aNil))) (aCons (eTup (aCons (eTup (aCons (eC (.int 1)) (aCons (eC (.int 0)) (aNil)))) (aCons (eTup (aCons (eC (.int 0)) (aCons (eC (.int 1)) (aNil)))) (aNil)))) (aCons (eTup (aCons (eTup (aCons (eC (.int 0)) (aCons (eC (.int 1)) (aNil)))) (aCons (eTup (aCons (eC (.int 1)) (aCons (eC (.int 0)) (aNil)))) (aNil)))) (aNil)))))))))) (sSeq (sFor (iSeq (e2 fAdd (eVar 4) (eLst (aCons (eTup (aCons (eTup (aCons (eC (.int 0)) (aCons (eC (.int 1)) (aNil)))) (aCons (eTup (aCons (eC (.int 0)) (aCons (eC (.int 1)) (aNil)))) (aNil)))) (aCons (eTup (aCons (eTup (aCons (eC (.int 0)) (aCons (eC (.bl true)) (aNil)))) (aNil))) (aCons (eTup (aCons (eTup (aCons (eC (.int 0)) (aCons (eC (.int 1)) (aNil)))) (aCons (eTup (aCons (eC (.int 1)) (aCons (eC (.int 2)) (aNil)))) (aNil)))) (aCons (eTup (aCons (eTup (aCons (eC (.int 0)) (aCons (eC (.int 1)) (aCons (eC (.int 2)) (aNil))))) (aNil))) (aCons (eTup (aCons (eLst (aCons (eC (.int 0)) (aCons (eC (.int 1)) (aNil)))) (aNil))) (aCons (eTup (aCons (eTup (aCons (eC (.int 0)) (aCons (eC (.int 2)) (aNil)))) (aCons (eTup (aCons (eC (.int 0)) (aCons (eC (.int 1)) (aNil)))) (aNil)))) (aNil)))))))))) (gN 3) (sIf (tV (e2 fNe (eCB fRepr (aCons (eLam 2 (b__law_heard c) (eCall c i_told_back (aCons (eC (.int 3)) (aCons (eVar 3) (aNil))))) (aNil))) (eCB fRepr (aCons (eTup (aCons (eC (.str "pairs")) (aCons (eVar 3) (aNil)))) (aNil))))) (sRet (eC (.bl false))) (sNil))) (sSeq (sFor (iSeq (eTup (aCons (eTup (aCons (eTup (aCons (eC (.int 0)) (aCons (eC (.int 1)) (aNil)))) (aCons (eTup (aCons (eC (.int 2)) (aCons (eC (.int 1)) (aNil)))) (aNil)))) (aCons (eTup (aCons (eTup (aCons (eC (.int 0)) (aCons (eC (.int 1)) (aNil)))) (aCons (eTup (aCons (eC (.int 0)) (aCons (eC (.int 2)) (aNil)))) (aNil)))) (aCons (eTup (aCons (eTup (aCons (eC (.int 1)) (aCons (eC (.int 0)) (aNil)))) (aCons (eTup (aCons (eC (.int 1)) (aCons (eC (.int 2)) (aNil)))) (aNil)))) (aNil)))))) (gN 5) (sIf (tNotM (tV (eCall c i__law_back_is (aCons (eC (.int 3)) (aCons (eVar 5) (aCons (eCall c i_told_back (aCons (eC (.int 3)) (aCons (eVar 5) (aNil)))) (aNil))))))) (sRet (eC (.bl false))) (sNil))) (sRet (eCall c i__law_back_is (aCons (eC (.int 0)) (aCons (eTup (aNil)) (aCons (eCall c i_told_back (aCons (eC (.int 0)) (aCons (eTup (aNil)) (aNil)))) (aNil))))))))))))
def bsL : List (Option Bd) := [some ⟨1, 1, b_is_integer⟩, some ⟨3, 3, b_is_between⟩, some ⟨2, 3, b_is_pair⟩, some ⟨2, 6, b_are_pairs⟩, some ⟨3, 7, b_rows_along⟩, some ⟨2, 6, b_common_pairs⟩, some ⟨2, 5, b_two_rows⟩, some ⟨2, 8, b_told_back⟩, some ⟨2, 2, b__law_mixed⟩, some ⟨1, 3, b__law_begin⟩, some ⟨2, 6, b__law_draw⟩, some ⟨2, 2, b__law_in⟩, some ⟨2, 2, b__law_out⟩, some ⟨2, 2, b__law_turned⟩, some ⟨1, 1, b__law_early⟩, none, some ⟨2, 8, b__law_pairs⟩, some ⟨2, 6, b__law_are_pairs⟩, some ⟨1, 5, b__law_back_right⟩, some ⟨3, 9, b__law_back_is⟩, some ⟨1, 6, b_law⟩]
def bs (i : Nat) : Option Bd := bsL.getD i none
end
end L2.Z.Lw

set_option Elab.async false
set_option linter.all false
set_option maxRecDepth 100000
set_option maxHeartbeats 4000000
/-! the derivations -/
namespace L2.Z.Lw
open PySem PySem.Spec PyProof.Rows
variable [HasT]
def top (i : Nat) : Stmt := PySem.Challenge.pw_fewqueues_k39_whole_told_back.main.body.getD i (.Pass ⟨0, 0, 0, 0⟩)
structure Tx (P : Program) (w : World) (K : PySem.W.Frag) (mg : Str → Option Value) (base : Heap) : Prop where
  f_all : mg "all" = none
  f_bool : mg "bool" = none
  f_enumerate : mg "enumerate" = none
  f_int : mg "int" = none
  f_isinstance : mg "isinstance" = none
  f_len : mg "len" = none
  f_list : mg "list" = none
  f_min : mg "min" = none
  f_range : mg "range" = none
  f_repr : mg "repr" = none
  f_sorted : mg "sorted" = none
  f_tuple : mg "tuple" = none
  f_zip : mg "zip" = none
  g_MOST_SIZE : ∃ t, mg "MOST_SIZE" = some (.int 5 t)
  sub : SubOk K subT
  c_BadNumber : mg "BadNumber" = some (.ref (He.ga K "BadNumber"))
  c_BadPairs : mg "BadPairs" = some (.ref (He.ga K "BadPairs"))
  x_BadNumber : KX P w K mg base "BadNumber" ["given"]
  x_BadPairs : KX P w K mg base "BadPairs" ["given"]
  l_given : FldOk K xcs "given"
  m_0 : mg "is_integer" = some (.ref (He.ga K "is_integer"))
  d_0 : ∃ fd, FunD K "is_integer" "is_integer" (defArgs (top 5)) (defBody (top 5)) (defScope (top 5)) [] [] (He.ga K "is_integer") fd ∧ Binds K fd ["thing"] []
  m_1 : mg "is_between" = some (.ref (He.ga K "is_between"))
  d_1 : ∃ fd, FunD K "is_between" "is_between" (defArgs (top 6)) (defBody (top 6)) (defScope (top 6)) [] [] (He.ga K "is_between") fd ∧ Binds K fd ["thing", "least", "most"] []
  m_2 : mg "is_pair" = some (.ref (He.ga K "is_pair"))
  d_2 : ∃ fd, FunD K "is_pair" "is_pair" (defArgs (top 9)) (defBody (top 9)) (defScope (top 9)) [] [] (He.ga K "is_pair") fd ∧ Binds K fd ["size", "thing"] []
  m_3 : mg "are_pairs" = some (.ref (He.ga K "are_pairs"))
  d_3 : ∃ fd, FunD K "are_pairs" "are_pairs" (defArgs (top 10)) (defBody (top 10)) (defScope (top 10)) [] [] (He.ga K "are_pairs") fd ∧ Binds K fd ["size", "thing"] []
  m_4 : mg "rows_along" = some (.ref (He.ga K "rows_along"))
  d_4 : ∃ fd, FunD K "rows_along" "rows_along" (defArgs (top 11)) (defBody (top 11)) (defScope (top 11)) [] [] (He.ga K "rows_along") fd ∧ Binds K fd ["size", "pairs", "row"] []
  m_5 : mg "common_pairs" = some (.ref (He.ga K "common_pairs"))
  d_5 : ∃ fd, FunD K "common_pairs" "common_pairs" (defArgs (top 12)) (defBody (top 12)) (defScope (top 12)) [] [] (He.ga K "common_pairs") fd ∧ Binds K fd ["row", "other"] []
  m_6 : mg "two_rows" = some (.ref (He.ga K "two_rows"))
  d_6 : ∃ fd, FunD K "two_rows" "two_rows" (defArgs (top 13)) (defBody (top 13)) (defScope (top 13)) [] [] (He.ga K "two_rows") fd ∧ Binds K fd ["size", "pairs"] []
  m_7 : mg "told_back" = some (.ref (He.ga K "told_back"))
  d_7 : ∃ fd, FunD K "told_back" "told_back" (defArgs (top 14)) (defBody (top 14)) (defScope (top 14)) [] [] (He.ga K "told_back") fd ∧ Binds K fd ["size", "pairs"] []
  m_8 : mg "_law_mixed" = some (.ref (He.ga K "_law_mixed"))
  d_8 : ∃ fd, FunD K "_law_mixed" "_law_mixed" (defArgs (top 16)) (defBody (top 16)) (defScope (top 16)) [] [] (He.ga K "_law_mixed") fd ∧ Binds K fd ["_law_cell", "_law_k"] []
  m_9 : mg "_law_begin" = some (.ref (He.ga K "_law_begin"))
  d_9 : ∃ fd, FunD K "_law_begin" "_law_begin" (defArgs (top 17)) (defBody (top 17)) (defScope (top 17)) [] [] (He.ga K "_law_begin") fd ∧ Binds K fd ["_law_script"] []
  m_10 : mg "_law_draw" = some (.ref (He.ga K "_law_draw"))
  d_10 : ∃ fd, FunD K "_law_draw" "_law_draw" (defArgs (top 18)) (defBody (top 18)) (defScope (top 18)) [] [] (He.ga K "_law_draw") fd ∧ Binds K fd ["_law_state", "_law_many"] []
  m_11 : mg "_law_in" = some (.ref (He.ga K "_law_in"))
  d_11 : ∃ fd, FunD K "_law_in" "_law_in" (defArgs (top 19)) (defBody (top 19)) (defScope (top 19)) [] [] (He.ga K "_law_in") fd ∧ Binds K fd ["_law_near", "_law_far"] []
  m_12 : mg "_law_out" = some (.ref (He.ga K "_law_out"))
  d_12 : ∃ fd, FunD K "_law_out" "_law_out" (defArgs (top 20)) (defBody (top 20)) (defScope (top 20)) [] [] (He.ga K "_law_out") fd ∧ Binds K fd ["_law_near", "_law_far"] []
  m_13 : mg "_law_turned" = some (.ref (He.ga K "_law_turned"))
  d_13 : ∃ fd, FunD K "_law_turned" "_law_turned" (defArgs (top 21)) (defBody (top 21)) (defScope (top 21)) [] [] (He.ga K "_law_turned") fd ∧ Binds K fd ["_law_near", "_law_far"] []
  m_14 : mg "_law_early" = some (.ref (He.ga K "_law_early"))
  d_14 : ∃ fd, FunD K "_law_early" "_law_early" (defArgs (top 22)) (defBody (top 22)) (defScope (top 22)) [] [] (He.ga K "_law_early") fd ∧ Binds K fd ["_law_thing"] []
  m_15 : mg "_law_heard" = some (.ref (He.ga K "_law_heard"))
  d_15 : ∃ fd, FunD K "_law_heard" "_law_heard" (defArgs (top 23)) (defBody (top 23)) (defScope (top 23)) [] [] (He.ga K "_law_heard") fd ∧ Binds K fd ["_law_call"] []
  m_16 : mg "_law_pairs" = some (.ref (He.ga K "_law_pairs"))
  d_16 : ∃ fd, FunD K "_law_pairs" "_law_pairs" (defArgs (top 24)) (defBody (top 24)) (defScope (top 24)) [] [] (He.ga K "_law_pairs") fd ∧ Binds K fd ["_law_state", "_law_size"] []
  m_17 : mg "_law_are_pairs" = some (.ref (He.ga K "_law_are_pairs"))
  d_17 : ∃ fd, FunD K "_law_are_pairs" "_law_are_pairs" (defArgs (top 25)) (defBody (top 25)) (defScope (top 25)) [] [] (He.ga K "_law_are_pairs") fd ∧ Binds K fd ["_law_size", "_law_pairs_here"] []
  m_18 : mg "_law_back_right" = some (.ref (He.ga K "_law_back_right"))
  d_18 : ∃ fd, FunD K "_law_back_right" "_law_back_right" (defArgs (top 26)) (defBody (top 26)) (defScope (top 26)) [] [] (He.ga K "_law_back_right") fd ∧ Binds K fd ["_law_state"] []
  kt_18 : KnT base mg ("_law_back_right" ++ ".<locals>." ++ "<lambda>") (He.codeOf K ("_law_back_right", none))
  m_19 : mg "_law_back_is" = some (.ref (He.ga K "_law_back_is"))
  d_19 : ∃ fd, FunD K "_law_back_is" "_law_back_is" (defArgs (top 27)) (defBody (top 27)) (defScope (top 27)) [] [] (He.ga K "_law_back_is") fd ∧ Binds K fd ["_law_size", "_law_pairs_here", "_law_history"] []
  m_20 : mg "law" = some (.ref (He.ga K "law"))
  d_20 : ∃ fd, FunD K "law" "law" (defArgs (top 28)) (defBody (top 28)) (defScope (top 28)) [] [] (He.ga K "law") fd ∧ Binds K fd ["_law_script"] []
  kt_20 : KnT base mg ("law" ++ ".<locals>." ++ "<lambda>") (He.codeOf K ("law", none))
def tabL : List (Option (Str × Nat)) := ([some ("is_integer", 1), some ("is_between", 3), some ("is_pair", 2), some ("are_pairs", 2), some ("rows_along", 3), some ("common_pairs", 2), some ("two_rows", 2), some ("told_back", 2), some ("_law_mixed", 2), some ("_law_begin", 1), some ("_law_draw", 2), some ("_law_in", 2), some ("_law_out", 2), some ("_law_turned", 2), some ("_law_early", 1), none, some ("_law_pairs", 2), some ("_law_are_pairs", 2), some ("_law_back_right", 1), some ("_law_back_is", 3)] : List (Option (Str × Nat))) ++ ([some ("law", 1)] : List (Option (Str × Nat)))
def tab (i : Nat) : Option (Str × Nat) := tabL.getD i none
def N_0 : List Str := ["thing"]
theorem sc_0 : FnScope N_0 ["thing"] (defScope (top 5)) := ⟨rfl, rfl, rfl, by decide +kernel, rfl, by decide +kernel, by decide +kernel⟩
theorem nm_0 : NmOk N_0 := by unfold NmOk; decide +kernel
theorem q_0 {P : Program} {w : World} {K : PySem.W.Frag} {mg : Str → Option Value} {base : Heap} {f : Addr} {cdv : Value} {A : Around} {outer : List PySem.Env} {s : Shared} {H : Hp} {E : XK} {k : Nat} {c : Orc} (T : Tx P w K mg base) (KA : KnAll P w K mg base tab k c) (hr : Rm (k + 4) (A.deeper (envOfC "is_integer" (defScope (top 5)) s.heap.objs.size f cdv))) :
    QSs (cxOf (L2.CX P w) P w K mg base N_0 "is_integer" (defScope (top 5)) f cdv A outer s H E) (defBody (top 5)) (b_is_integer c) := by
  have nd := sc_0.nd
  have nm := nm_0
  have hk := hr.mono (Nat.le_add_right k 4)
  exact qss_one (qs_ret (q_and (q_isi .int T.f_isinstance T.f_int bt_int (q_var 0 nm)) (q_one (q_not (q_isi .bool T.f_isinstance T.f_bool bt_bool (q_var 0 nm))))))
theorem kn_0 {P : Program} {w : World} {K : PySem.W.Frag} {mg : Str → Option Value} {base : Heap} {k : Nat} {c : Orc} (T : Tx P w K mg base) (KA : KnAll P w K mg base tab k c) : Kn P w K mg base (k + 5) "is_integer" 1 (runZ 1 1 (b_is_integer c)) := by
  obtain ⟨fd, F, hb⟩ := T.d_0
  exact ⟨⟨_, fd, ["thing"], rfl, fn_z (N := N_0) F sc_0 rfl (fun cdv A outer s H E hr => q_0 T KA hr), T.m_0, F.kp, hb⟩, ary_runZ⟩
theorem kz_0 {P : Program} {w : World} {K : PySem.W.Frag} {mg : Str → Option Value} {base : Heap} (T : Tx P w K mg base) : Kn P w K mg base 0 "is_integer" 1 (fun _ => bad) := by
  obtain ⟨fd, F, hb⟩ := T.d_0
  exact ⟨⟨_, fd, ["thing"], rfl, fn_z0 rfl, T.m_0, F.kp, hb⟩, fun _ _ _ => rfl⟩
def N_1 : List Str := ["thing", "least", "most"]
theorem sc_1 : FnScope N_1 ["thing", "least", "most"] (defScope (top 6)) := ⟨rfl, rfl, rfl, by decide +kernel, rfl, by decide +kernel, by decide +kernel⟩
theorem nm_1 : NmOk N_1 := by unfold NmOk; decide +kernel
theorem q_1 {P : Program} {w : World} {K : PySem.W.Frag} {mg : Str → Option Value} {base : Heap} {f : Addr} {cdv : Value} {A : Around} {outer : List PySem.Env} {s : Shared} {H : Hp} {E : XK} {k : Nat} {c : Orc} (T : Tx P w K mg base) (KA : KnAll P w K mg base tab k c) (hr : Rm (k + 4) (A.deeper (envOfC "is_between" (defScope (top 6)) s.heap.objs.size f cdv))) :
    QSs (cxOf (L2.CX P w) P w K mg base N_1 "is_between" (defScope (top 6)) f cdv A outer s H E) (defBody (top 6)) (b_is_between c) := by
  have nd := sc_1.nd
  have nm := nm_1
  have hk := hr.mono (Nat.le_add_right k 4)
  exact qss_one (qs_ret (q_and (q_call (KA 0 "is_integer" 1 rfl) hk (qa_cons (q_var 0 nm) (qa_nil))) (q_one (q_chain r_le r_le (q_var 1 nm) (q_var 0 nm) (q_var 2 nm) (by rfl)))))
theorem kn_1 {P : Program} {w : World} {K : PySem.W.Frag} {mg : Str → Option Value} {base : Heap} {k : Nat} {c : Orc} (T : Tx P w K mg base) (KA : KnAll P w K mg base tab k c) : Kn P w K mg base (k + 5) "is_between" 3 (runZ 3 3 (b_is_between c)) := by
  obtain ⟨fd, F, hb⟩ := T.d_1
  exact ⟨⟨_, fd, ["thing", "least", "most"], rfl, fn_z (N := N_1) F sc_1 rfl (fun cdv A outer s H E hr => q_1 T KA hr), T.m_1, F.kp, hb⟩, ary_runZ⟩
theorem kz_1 {P : Program} {w : World} {K : PySem.W.Frag} {mg : Str → Option Value} {base : Heap} (T : Tx P w K mg base) : Kn P w K mg base 0 "is_between" 3 (fun _ => bad) := by
  obtain ⟨fd, F, hb⟩ := T.d_1
  exact ⟨⟨_, fd, ["thing", "least", "most"], rfl, fn_z0 rfl, T.m_1, F.kp, hb⟩, fun _ _ _ => rfl⟩
def N_2 : List Str := ["size", "thing", "one"]
theorem sc_2 : FnScope N_2 ["size", "thing"] (defScope (top 9)) := ⟨rfl, rfl, rfl, by decide +kernel, rfl, by decide +kernel, by decide +kernel⟩
theorem nm_2 : NmOk N_2 := by unfold NmOk; decide +kernel
theorem q_2 {P : Program} {w : World} {K : PySem.W.Frag} {mg : Str → Option Value} {base : Heap} {f : Addr} {cdv : Value} {A : Around} {outer : List PySem.Env} {s : Shared} {H : Hp} {E : XK} {k : Nat} {c : Orc} (T : Tx P w K mg base) (KA : KnAll P w K mg base tab k c) (hr : Rm (k + 4) (A.deeper (envOfC "is_pair" (defScope (top 9)) s.heap.objs.size f cdv))) :
    QSs (cxOf (L2.CX P w) P w K mg base N_2 "is_pair" (defScope (top 9)) f cdv A outer s H E) (defBody (top 9)) (b_is_pair c) := by
  have nd := sc_2.nd
  have nm := nm_2
  have hk := hr.mono (Nat.le_add_right k 4)
  exact qss_cons (qs_if ((qw_or (qt_not (qt_val (q_isi .tuple T.f_isinstance T.f_tuple bt_tuple (q_var 1 nm)))) (qw_or (qt_cmp (b_fPD _) (r_ne hr) (q_callB c_len T.f_len bb_len (qa_cons (q_var 1 nm) (qa_nil))) (q_int) (nomark _)) (qw_or1 (qt_not (qt_val (q_callB (c_all rfl) T.f_all bb_all (qa_cons (q_lc [("one", 2)] rfl nd (qi_seq (q_var 1 nm)) (blkOk_by (by kernel_rfl)) (fun _ _ _ _ _ => qg_name 2 nd) (fun _ _ _ _ _ => qts_nil) (fun _ _ _ _ _ => q_call (KA 1 "is_between" 3 rfl) hk (qa_cons (q_var 2 nm) (qa_cons (q_int) (qa_cons (q_op r_sub (q_var 0 nm) (q_int)) (qa_nil))))) (by decide)) (qa_nil)))))))).t) (qss_one (qs_ret (q_bl))) (qss_nil)) (qss_one (qs_ret (q_cmp (r_ne hr) (q_ix hr (q_var 1 nm) (q_int)) (q_ix hr (q_var 1 nm) (q_int)) (nomark _))))
theorem kn_2 {P : Program} {w : World} {K : PySem.W.Frag} {mg : Str → Option Value} {base : Heap} {k : Nat} {c : Orc} (T : Tx P w K mg base) (KA : KnAll P w K mg base tab k c) : Kn P w K mg base (k + 5) "is_pair" 2 (runZ 2 3 (b_is_pair c)) := by
  obtain ⟨fd, F, hb⟩ := T.d_2
  exact ⟨⟨_, fd, ["size", "thing"], rfl, fn_z (N := N_2) F sc_2 rfl (fun cdv A outer s H E hr => q_2 T KA hr), T.m_2, F.kp, hb⟩, ary_runZ⟩
theorem kz_2 {P : Program} {w : World} {K : PySem.W.Frag} {mg : Str → Option Value} {base : Heap} (T : Tx P w K mg base) : Kn P w K mg base 0 "is_pair" 2 (fun _ => bad) := by
  obtain ⟨fd, F, hb⟩ := T.d_2
  exact ⟨⟨_, fd, ["size", "thing"], rfl, fn_z0 rfl, T.m_2, F.kp, hb⟩, fun _ _ _ => rfl⟩
def N_3 : List Str := ["size", "thing", "one", "other", "first", "last"]
theorem sc_3 : FnScope N_3 ["size", "thing"] (defScope (top 10)) := ⟨rfl, rfl, rfl, by decide +kernel, rfl, by decide +kernel, by decide +kernel⟩
theorem nm_3 : NmOk N_3 := by unfold NmOk; decide +kernel
theorem q_3 {P : Program} {w : World} {K : PySem.W.Frag} {mg : Str → Option Value} {base : Heap} {f : Addr} {cdv : Value} {A : Around} {outer : List PySem.Env} {s : Shared} {H : Hp} {E : XK} {k : Nat} {c : Orc} (T : Tx P w K mg base) (KA : KnAll P w K mg base tab k c) (hr : Rm (k + 4) (A.deeper (envOfC "are_pairs" (defScope (top 10)) s.heap.objs.size f cdv))) :
    QSs (cxOf (L2.CX P w) P w K mg base N_3 "are_pairs" (defScope (top 10)) f cdv A outer s H E) (defBody (top 10)) (b_are_pairs c) := by
  have nd := sc_3.nd
  have nm := nm_3
  have hk := hr.mono (Nat.le_add_right k 4)
  exact qss_cons (qs_if ((qw_or (qt_not (qt_val (q_isi .tuple T.f_isinstance T.f_tuple bt_tuple (q_var 1 nm)))) (qw_or1 (qt_not (qt_val (q_callB (c_all rfl) T.f_all bb_all (qa_cons (q_lc [("one", 2)] rfl nd (qi_seq (q_var 1 nm)) (blkOk_by (by kernel_rfl)) (fun _ _ _ _ _ => qg_name 2 nd) (fun _ _ _ _ _ => qts_nil) (fun _ _ _ _ _ => q_call (KA 2 "is_pair" 2 rfl) hk (qa_cons (q_var 0 nm) (qa_cons (q_var 2 nm) (qa_nil)))) (by decide)) (qa_nil))))))).t) (qss_one (qs_ret (q_bl))) (qss_nil)) (qss_cons (qs_if (qt_not (qt_val (q_callB (c_all rfl) T.f_all bb_all (qa_cons (q_lc [("one", 2), ("other", 3)] rfl nd (qi_zip T.f_zip (qa_cons (q_var 1 nm) (qa_cons (q_slice (q_var 1 nm) (qo_some (q_int)) qo_none) (qa_nil)))) (blkOk_by (by kernel_rfl)) (fun _ _ _ _ _ => qg_tup rfl (qgs_cons (qg_name 2 nd) (qgs_cons (qg_name 3 nd) (qgs_nil))) (gl_cons (gl_cons (gl_nil)))) (fun _ _ _ _ _ => qts_nil) (fun _ _ _ _ _ => q_cmp (r_ltT hr) (q_var 2 nm) (q_var 3 nm) (nomark _)) (by decide)) (qa_nil))))) (qss_one (qs_ret (q_bl))) (qss_nil)) (qss_cons (qs_for pOwn rfl (qi_seq (q_var 1 nm)) (qg_tup rfl (qgs_cons (qg_name 2 nd) (qgs_cons (qg_name 3 nd) (qgs_nil))) (gl_cons (gl_cons (gl_nil)))) (qss_one (qs_if (qt_not (qt_val (q_callB (c_all rfl) T.f_all bb_all (qa_cons (q_lc [("first", 4), ("last", 5)] rfl nd (qi_seq (q_var 1 nm)) (blkOk_by (by kernel_rfl)) (fun _ _ _ _ _ => qg_tup rfl (qgs_cons (qg_name 4 nd) (qgs_cons (qg_name 5 nd) (qgs_nil))) (gl_cons (gl_cons (gl_nil)))) (fun _ _ _ _ _ => qts_one (qt_cmp (b_fPD _) (r_eq hr) (q_var 4 nm) (q_var 3 nm) (nomark _))) (fun _ _ _ _ _ => q_cmp (r_in hr) (q_tup (qa_cons (q_var 2 nm) (qa_cons (q_var 5 nm) (qa_nil)))) (q_var 1 nm) (by rfl)) (by decide)) (qa_nil))))) (qss_one (qs_ret (q_bl))) (qss_nil)))) (qss_one (qs_ret (q_bl)))))
theorem kn_3 {P : Program} {w : World} {K : PySem.W.Frag} {mg : Str → Option Value} {base : Heap} {k : Nat} {c : Orc} (T : Tx P w K mg base) (KA : KnAll P w K mg base tab k c) : Kn P w K mg base (k + 5) "are_pairs" 2 (runZ 2 6 (b_are_pairs c)) := by
  obtain ⟨fd, F, hb⟩ := T.d_3
  exact ⟨⟨_, fd, ["size", "thing"], rfl, fn_z (N := N_3) F sc_3 rfl (fun cdv A outer s H E hr => q_3 T KA hr), T.m_3, F.kp, hb⟩, ary_runZ⟩
theorem kz_3 {P : Program} {w : World} {K : PySem.W.Frag} {mg : Str → Option Value} {base : Heap} (T : Tx P w K mg base) : Kn P w K mg base 0 "are_pairs" 2 (fun _ => bad) := by
  obtain ⟨fd, F, hb⟩ := T.d_3
  exact ⟨⟨_, fd, ["size", "thing"], rfl, fn_z0 rfl, T.m_3, F.kp, hb⟩, fun _ _ _ => rfl⟩
def N_4 : List Str := ["size", "pairs", "row", "found", "number", "one", "other"]
theorem sc_4 : FnScope N_4 ["size", "pairs", "row"] (defScope (top 11)) := ⟨rfl, rfl, rfl, by decide +kernel, rfl, by decide +kernel, by decide +kernel⟩
theorem nm_4 : NmOk N_4 := by unfold NmOk; decide +kernel
theorem q_4 {P : Program} {w : World} {K : PySem.W.Frag} {mg : Str → Option Value} {base : Heap} {f : Addr} {cdv : Value} {A : Around} {outer : List PySem.Env} {s : Shared} {H : Hp} {E : XK} {k : Nat} {c : Orc} (T : Tx P w K mg base) (KA : KnAll P w K mg base tab k c) (hr : Rm (k + 4) (A.deeper (envOfC "rows_along" (defScope (top 11)) s.heap.objs.size f cdv))) :
    QSs (cxOf (L2.CX P w) P w K mg base N_4 "rows_along" (defScope (top 11)) f cdv A outer s H E) (defBody (top 11)) (b_rows_along c) := by
  have nd := sc_4.nd
  have nm := nm_4
  have hk := hr.mono (Nat.le_add_right k 4)
  exact qss_cons (qs_if (qt_cmp (b_fPD _) (r_eq hr) (q_callB c_len T.f_len bb_len (qa_cons (q_co (q_var 2 nm)) (qa_nil))) (q_var 0 nm) (nomark _)) (qss_one (qs_ret (q_lst (qa_cons (q_var 2 nm) qa_nil)))) (qss_nil)) (qss_cons (qs_set 3 nd (q_lst (qa_nil))) (qss_cons (qs_for pOwn rfl (qi_rng1 T.f_range (qa_cons (q_var 0 nm) (qa_nil))) (qg_name 4 nd) (qss_one (qs_if ((qw_and (qt_cmp (b_fPD _) (r_notIn hr) (q_var 4 nm) (q_co (q_var 2 nm)) (by rfl)) (qw_and1 (qt_val (q_callB (c_all rfl) T.f_all bb_all (qa_cons (q_lc [("one", 5), ("other", 6)] rfl nd (qi_seq (q_var 1 nm)) (blkOk_by (by kernel_rfl)) (fun _ _ _ _ _ => qg_tup rfl (qgs_cons (qg_name 5 nd) (qgs_cons (qg_name 6 nd) (qgs_nil))) (gl_cons (gl_cons (gl_nil)))) (fun _ _ _ _ _ => qts_one (qt_cmp (b_fPD _) (r_eq hr) (q_var 6 nm) (q_var 4 nm) (nomark _))) (fun _ _ _ _ _ => q_cmp (r_in hr) (q_var 5 nm) (q_co (q_var 2 nm)) (by rfl)) (by decide)) (qa_nil)))))).t) (qss_one (qs_expr (q_lm PySem.F.slot_list_extend PySem.F.type_list_extend m_ext (q_var 3 nm) (qa_cons (q_call (KA 4 "rows_along" 3 rfl) hk (qa_cons (q_var 0 nm) (qa_cons (q_var 1 nm) (qa_cons (q_xtp (qa_star (q_co (q_var 2 nm)) (qa_cons (q_var 4 nm) (qa_nil)))) (qa_nil))))) (qa_nil))))) (qss_nil)))) (qss_one (qs_ret (q_var 3 nm)))))
theorem kn_4 {P : Program} {w : World} {K : PySem.W.Frag} {mg : Str → Option Value} {base : Heap} {k : Nat} {c : Orc} (T : Tx P w K mg base) (KA : KnAll P w K mg base tab k c) : Kn P w K mg base (k + 5) "rows_along" 3 (runZ 3 7 (b_rows_along c)) := by
  obtain ⟨fd, F, hb⟩ := T.d_4
  exact ⟨⟨_, fd, ["size", "pairs", "row"], rfl, fn_z (N := N_4) F sc_4 rfl (fun cdv A outer s H E hr => q_4 T KA hr), T.m_4, F.kp, hb⟩, ary_runZ⟩
theorem kz_4 {P : Program} {w : World} {K : PySem.W.Frag} {mg : Str → Option Value} {base : Heap} (T : Tx P w K mg base) : Kn P w K mg base 0 "rows_along" 3 (fun _ => bad) := by
  obtain ⟨fd, F, hb⟩ := T.d_4
  exact ⟨⟨_, fd, ["size", "pairs", "row"], rfl, fn_z0 rfl, T.m_4, F.kp, hb⟩, fun _ _ _ => rfl⟩
def N_5 : List Str := ["row", "other", "found", "spot", "one", "far"]
theorem sc_5 : FnScope N_5 ["row", "other"] (defScope (top 12)) := ⟨rfl, rfl, rfl, by decide +kernel, rfl, by decide +kernel, by decide +kernel⟩
theorem nm_5 : NmOk N_5 := by unfold NmOk; decide +kernel
theorem q_5 {P : Program} {w : World} {K : PySem.W.Frag} {mg : Str → Option Value} {base : Heap} {f : Addr} {cdv : Value} {A : Around} {outer : List PySem.Env} {s : Shared} {H : Hp} {E : XK} {k : Nat} {c : Orc} (T : Tx P w K mg base) (KA : KnAll P w K mg base tab k c) (hr : Rm (k + 4) (A.deeper (envOfC "common_pairs" (defScope (top 12)) s.heap.objs.size f cdv))) :
    QSs (cxOf (L2.CX P w) P w K mg base N_5 "common_pairs" (defScope (top 12)) f cdv A outer s H E) (defBody (top 12)) (b_common_pairs c) := by
  have nd := sc_5.nd
  have nm := nm_5
  have hk := hr.mono (Nat.le_add_right k 4)
  exact qss_cons (qs_set 2 nd (q_lst (qa_nil))) (qss_cons (qs_for pOwn rfl (qi_enm T.f_enumerate (qa_cons (q_co (q_var 0 nm)) (qa_nil))) (qg_tup rfl (qgs_cons (qg_name 3 nd) (qgs_cons (qg_name 4 nd) (qgs_nil))) (gl_cons (gl_cons (gl_nil)))) (qss_one (qs_expr (q_lm PySem.F.slot_list_extend PySem.F.type_list_extend m_ext (q_var 2 nm) (qa_cons (q_lc [("far", 5)] rfl nd (qi_seq (q_slice (q_co (q_var 0 nm)) (qo_some (q_op r_add (q_var 3 nm) (q_int))) qo_none)) (blkOk_by (by kernel_rfl)) (fun _ _ _ _ _ => qg_name 5 nd) (fun _ _ _ _ _ => qts_one (qt_cmp b_lt r_lt (q_idx (q_var 1 nm) (qa_cons (q_var 4 nm) (qa_nil))) (q_idx (q_var 1 nm) (qa_cons (q_var 5 nm) (qa_nil))) (nomark _))) (fun _ _ _ _ _ => q_tup (qa_cons (q_var 4 nm) (qa_cons (q_var 5 nm) (qa_nil)))) (by decide)) (qa_nil)))))) (qss_one (qs_ret (q_var 2 nm))))
theorem kn_5 {P : Program} {w : World} {K : PySem.W.Frag} {mg : Str → Option Value} {base : Heap} {k : Nat} {c : Orc} (T : Tx P w K mg base) (KA : KnAll P w K mg base tab k c) : Kn P w K mg base (k + 5) "common_pairs" 2 (runZ 2 6 (b_common_pairs c)) := by
  obtain ⟨fd, F, hb⟩ := T.d_5
  exact ⟨⟨_, fd, ["row", "other"], rfl, fn_z (N := N_5) F sc_5 rfl (fun cdv A outer s H E hr => q_5 T KA hr), T.m_5, F.kp, hb⟩, ary_runZ⟩
theorem kz_5 {P : Program} {w : World} {K : PySem.W.Frag} {mg : Str → Option Value} {base : Heap} (T : Tx P w K mg base) : Kn P w K mg base 0 "common_pairs" 2 (fun _ => bad) := by
  obtain ⟨fd, F, hb⟩ := T.d_5
  exact ⟨⟨_, fd, ["row", "other"], rfl, fn_z0 rfl, T.m_5, F.kp, hb⟩, fun _ _ _ => rfl⟩
def N_6 : List Str := ["size", "pairs", "rows", "row", "other"]
theorem sc_6 : FnScope N_6 ["size", "pairs"] (defScope (top 13)) := ⟨rfl, rfl, rfl, by decide +kernel, rfl, by decide +kernel, by decide +kernel⟩
theorem nm_6 : NmOk N_6 := by unfold NmOk; decide +kernel
theorem q_6 {P : Program} {w : World} {K : PySem.W.Frag} {mg : Str → Option Value} {base : Heap} {f : Addr} {cdv : Value} {A : Around} {outer : List PySem.Env} {s : Shared} {H : Hp} {E : XK} {k : Nat} {c : Orc} (T : Tx P w K mg base) (KA : KnAll P w K mg base tab k c) (hr : Rm (k + 4) (A.deeper (envOfC "two_rows" (defScope (top 13)) s.heap.objs.size f cdv))) :
    QSs (cxOf (L2.CX P w) P w K mg base N_6 "two_rows" (defScope (top 13)) f cdv A outer s H E) (defBody (top 13)) (b_two_rows c) := by
  have nd := sc_6.nd
  have nm := nm_6
  have hk := hr.mono (Nat.le_add_right k 4)
  exact qss_cons (qs_set 2 nd (q_call (KA 4 "rows_along" 3 rfl) hk (qa_cons (q_var 0 nm) (qa_cons (q_var 1 nm) (qa_cons (q_xtp (qa_nil)) (qa_nil)))))) (qss_cons (qs_for pOwn rfl (qi_seq (q_var 2 nm)) (qg_name 3 nd) (qss_one (qs_for pOwn rfl (qi_seq (q_var 2 nm)) (qg_name 4 nd) (qss_one (qs_if (qt_cmp (b_fPD _) (r_eq hr) (q_callB c_len T.f_len bb_len (qa_cons (q_call (KA 5 "common_pairs" 2 rfl) hk (qa_cons (q_var 3 nm) (qa_cons (q_var 4 nm) (qa_nil)))) (qa_nil))) (q_callB c_len T.f_len bb_len (qa_cons (q_var 1 nm) (qa_nil))) (nomark _)) (qss_one (qs_ret (q_tup (qa_cons (q_var 3 nm) (qa_cons (q_var 4 nm) (qa_nil)))))) (qss_nil)))))) (qss_one (qs_ret (q_non))))
theorem kn_6 {P : Program} {w : World} {K : PySem.W.Frag} {mg : Str → Option Value} {base : Heap} {k : Nat} {c : Orc} (T : Tx P w K mg base) (KA : KnAll P w K mg base tab k c) : Kn P w K mg base (k + 5) "two_rows" 2 (runZ 2 5 (b_two_rows c)) := by
  obtain ⟨fd, F, hb⟩ := T.d_6
  exact ⟨⟨_, fd, ["size", "pairs"], rfl, fn_z (N := N_6) F sc_6 rfl (fun cdv A outer s H E hr => q_6 T KA hr), T.m_6, F.kp, hb⟩, ary_runZ⟩
theorem kz_6 {P : Program} {w : World} {K : PySem.W.Frag} {mg : Str → Option Value} {base : Heap} (T : Tx P w K mg base) : Kn P w K mg base 0 "two_rows" 2 (fun _ => bad) := by
  obtain ⟨fd, F, hb⟩ := T.d_6
  exact ⟨⟨_, fd, ["size", "pairs"], rfl, fn_z0 rfl, T.m_6, F.kp, hb⟩, fun _ _ _ => rfl⟩
def N_7 : List Str := ["size", "pairs", "things", "number", "row", "other", "begin", "end"]
theorem sc_7 : FnScope N_7 ["size", "pairs"] (defScope (top 14)) := ⟨rfl, rfl, rfl, by decide +kernel, rfl, by decide +kernel, by decide +kernel⟩
theorem nm_7 : NmOk N_7 := by unfold NmOk; decide +kernel
theorem q_7 {P : Program} {w : World} {K : PySem.W.Frag} {mg : Str → Option Value} {base : Heap} {f : Addr} {cdv : Value} {A : Around} {outer : List PySem.Env} {s : Shared} {H : Hp} {E : XK} {k : Nat} {c : Orc} (T : Tx P w K mg base) (KA : KnAll P w K mg base tab k c) (hr : Rm (k + 4) (A.deeper (envOfC "told_back" (defScope (top 14)) s.heap.objs.size f cdv))) :
    QSs (cxOf (L2.CX P w) P w K mg base N_7 "told_back" (defScope (top 14)) f cdv A outer s H E) (defBody (top 14)) (b_told_back c) := by
  have nd := sc_7.nd
  have nm := nm_7
  have hk := hr.mono (Nat.le_add_right k 4)
  exact qss_cons (qs_if (qt_not (qt_val (q_call (KA 1 "is_between" 3 rfl) hk (qa_cons (q_var 0 nm) (qa_cons (q_int) (qa_cons (q_gint T.g_MOST_SIZE) (qa_nil))))))) (qss_one (qs_raise T.x_BadNumber hr (by omega) rfl (qa_cons (q_var 0 nm) (qa_nil)))) (qss_nil)) (qss_cons (qs_if (qt_not (qt_val (q_call (KA 3 "are_pairs" 2 rfl) hk (qa_cons (q_var 0 nm) (qa_cons (q_var 1 nm) (qa_nil)))))) (qss_one (qs_raise T.x_BadPairs hr (by omega) rfl (qa_cons (q_var 1 nm) (qa_nil)))) (qss_nil)) (qss_cons (qs_asg (q_call (KA 6 "two_rows" 2 rfl) hk (qa_cons (q_var 0 nm) (qa_cons (q_var 1 nm) (qa_nil)))) (qg_tup rfl (qgs_cons (qg_name 4 nd) (qgs_cons (qg_name 5 nd) (qgs_nil))) (gl_cons (gl_cons (gl_nil))))) (qss_cons (qs_set 2 nd (q_lst (qa_nil))) (qss_cons (qs_for pOwn rfl (qi_rng1 T.f_range (qa_cons (q_var 0 nm) (qa_nil))) (qg_name 3 nd) (qss_cons (qs_par 6 7 rfl nd (qa_cons (q_idx (q_var 4 nm) (qa_cons (q_var 3 nm) (qa_nil))) (qa_cons (q_op r_sub (q_op r_mul (q_int) (q_var 0 nm)) (q_idx (q_var 5 nm) (qa_cons (q_var 3 nm) (qa_nil)))) (qa_nil)))) (qss_one (qs_expr (q_lm PySem.F.slot_list_append PySem.F.type_list_append m_app (q_var 2 nm) (qa_cons (q_tup (qa_cons (q_tup (qa_cons (q_var 6 nm) (qa_cons (q_var 6 nm) (qa_nil)))) (qa_cons (q_tup (qa_cons (q_var 7 nm) (qa_cons (q_var 7 nm) (qa_nil)))) (qa_nil)))) (qa_nil))))))) (qss_one (qs_ret (q_tup (qa_cons (q_callTy c_tuple T.f_tuple bt_tuple (qa_cons (q_var 2 nm) (qa_nil))) (qa_cons (q_tup (qa_nil)) (qa_nil))))))))))
theorem kn_7 {P : Program} {w : World} {K : PySem.W.Frag} {mg : Str → Option Value} {base : Heap} {k : Nat} {c : Orc} (T : Tx P w K mg base) (KA : KnAll P w K mg base tab k c) : Kn P w K mg base (k + 5) "told_back" 2 (runZ 2 8 (b_told_back c)) := by
  obtain ⟨fd, F, hb⟩ := T.d_7
  exact ⟨⟨_, fd, ["size", "pairs"], rfl, fn_z (N := N_7) F sc_7 rfl (fun cdv A outer s H E hr => q_7 T KA hr), T.m_7, F.kp, hb⟩, ary_runZ⟩
theorem kz_7 {P : Program} {w : World} {K : PySem.W.Frag} {mg : Str → Option Value} {base : Heap} (T : Tx P w K mg base) : Kn P w K mg base 0 "told_back" 2 (fun _ => bad) := by
  obtain ⟨fd, F, hb⟩ := T.d_7
  exact ⟨⟨_, fd, ["size", "pairs"], rfl, fn_z0 rfl, T.m_7, F.kp, hb⟩, fun _ _ _ => rfl⟩
def N_8 : List Str := ["_law_cell", "_law_k"]
theorem sc_8 : FnScope N_8 ["_law_cell", "_law_k"] (defScope (top 16)) := ⟨rfl, rfl, rfl, by decide +kernel, rfl, by decide +kernel, by decide +kernel⟩
theorem nm_8 : NmOk N_8 := by unfold NmOk; decide +kernel
theorem q_8 {P : Program} {w : World} {K : PySem.W.Frag} {mg : Str → Option Value} {base : Heap} {f : Addr} {cdv : Value} {A : Around} {outer : List PySem.Env} {s : Shared} {H : Hp} {E : XK} {k : Nat} {c : Orc} (T : Tx P w K mg base) (KA : KnAll P w K mg base tab k c) (hr : Rm (k + 4) (A.deeper (envOfC "_law_mixed" (defScope (top 16)) s.heap.objs.size f cdv))) :
    QSs (cxOf (L2.CX P w) P w K mg base N_8 "_law_mixed" (defScope (top 16)) f cdv A outer s H E) (defBody (top 16)) (b__law_mixed c) := by
  have nd := sc_8.nd
  have nm := nm_8
  have hk := hr.mono (Nat.le_add_right k 4)
  exact qss_cons (qs_set 0 nd (q_op r_mod (q_callTy c_int T.f_int bt_int (qa_cons (q_var 0 nm) (qa_nil))) (q_int))) (qss_one (qs_ret (q_op r_mod (q_op r_mul (q_op r_mod (q_op r_add (q_op r_add (q_op r_mul (q_var 0 nm) (q_op r_add (q_int) (q_op r_mul (q_op r_mul (q_int) (q_var 1 nm)) (q_var 1 nm)))) (q_op r_mul (q_int) (q_var 1 nm))) (q_int)) (q_int)) (q_int)) (q_int))))
theorem kn_8 {P : Program} {w : World} {K : PySem.W.Frag} {mg : Str → Option Value} {base : Heap} {k : Nat} {c : Orc} (T : Tx P w K mg base) (KA : KnAll P w K mg base tab k c) : Kn P w K mg base (k + 5) "_law_mixed" 2 (runZ 2 2 (b__law_mixed c)) := by
  obtain ⟨fd, F, hb⟩ := T.d_8
  exact ⟨⟨_, fd, ["_law_cell", "_law_k"], rfl, fn_z (N := N_8) F sc_8 rfl (fun cdv A outer s H E hr => q_8 T KA hr), T.m_8, F.kp, hb⟩, ary_runZ⟩
theorem kz_8 {P : Program} {w : World} {K : PySem.W.Frag} {mg : Str → Option Value} {base : Heap} (T : Tx P w K mg base) : Kn P w K mg base 0 "_law_mixed" 2 (fun _ => bad) := by
  obtain ⟨fd, F, hb⟩ := T.d_8
  exact ⟨⟨_, fd, ["_law_cell", "_law_k"], rfl, fn_z0 rfl, T.m_8, F.kp, hb⟩, fun _ _ _ => rfl⟩
def N_9 : List Str := ["_law_script", "_law_cells", "_law_cell"]
theorem sc_9 : FnScope N_9 ["_law_script"] (defScope (top 17)) := ⟨rfl, rfl, rfl, by decide +kernel, rfl, by decide +kernel, by decide +kernel⟩
theorem nm_9 : NmOk N_9 := by unfold NmOk; decide +kernel
theorem q_9 {P : Program} {w : World} {K : PySem.W.Frag} {mg : Str → Option Value} {base : Heap} {f : Addr} {cdv : Value} {A : Around} {outer : List PySem.Env} {s : Shared} {H : Hp} {E : XK} {k : Nat} {c : Orc} (T : Tx P w K mg base) (KA : KnAll P w K mg base tab k c) (hr : Rm (k + 4) (A.deeper (envOfC "_law_begin" (defScope (top 17)) s.heap.objs.size f cdv))) :
    QSs (cxOf (L2.CX P w) P w K mg base N_9 "_law_begin" (defScope (top 17)) f cdv A outer s H E) (defBody (top 17)) (b__law_begin c) := by
  have nd := sc_9.nd
  have nm := nm_9
  have hk := hr.mono (Nat.le_add_right k 4)
  exact qss_cons (qs_set 1 nd (q_if (qt_cmp (b_fPD _) (r_ne hr) (q_var 0 nm) (q_lst (qa_nil)) (nomark _)) (q_callTy c_list T.f_list bt_list (qa_cons (q_var 0 nm) (qa_nil))) (q_lst (qa_cons (q_int) (qa_nil))))) (qss_one (qs_ret (q_dict ⟨q_str, q_var 1 nm, q_str, q_lc [("_law_cell", 2)] rfl nd (qi_seq (q_var 1 nm)) (blkOk_by (by kernel_rfl)) (fun _ _ _ _ _ => qg_name 2 nd) (fun _ _ _ _ _ => qts_nil) (fun _ _ _ _ _ => q_if (qt_cmp b_ge r_ge (q_var 2 nm) (q_op r_pow (q_int) (q_int)) (nomark _)) (q_var 2 nm) (q_int)) (by decide), q_str, q_int, q_str, q_int, trivial⟩)))
theorem kn_9 {P : Program} {w : World} {K : PySem.W.Frag} {mg : Str → Option Value} {base : Heap} {k : Nat} {c : Orc} (T : Tx P w K mg base) (KA : KnAll P w K mg base tab k c) : Kn P w K mg base (k + 5) "_law_begin" 1 (runZ 1 3 (b__law_begin c)) := by
  obtain ⟨fd, F, hb⟩ := T.d_9
  exact ⟨⟨_, fd, ["_law_script"], rfl, fn_z (N := N_9) F sc_9 rfl (fun cdv A outer s H E hr => q_9 T KA hr), T.m_9, F.kp, hb⟩, ary_runZ⟩
theorem kz_9 {P : Program} {w : World} {K : PySem.W.Frag} {mg : Str → Option Value} {base : Heap} (T : Tx P w K mg base) : Kn P w K mg base 0 "_law_begin" 1 (fun _ => bad) := by
  obtain ⟨fd, F, hb⟩ := T.d_9
  exact ⟨⟨_, fd, ["_law_script"], rfl, fn_z0 rfl, T.m_9, F.kp, hb⟩, fun _ _ _ => rfl⟩
def N_10 : List Str := ["_law_state", "_law_many", "_law_at", "_law_place", "_law_left", "_law_number"]
theorem sc_10 : FnScope N_10 ["_law_state", "_law_many"] (defScope (top 18)) := ⟨rfl, rfl, rfl, by decide +kernel, rfl, by decide +kernel, by decide +kernel⟩
theorem nm_10 : NmOk N_10 := by unfold NmOk; decide +kernel
theorem q_10 {P : Program} {w : World} {K : PySem.W.Frag} {mg : Str → Option Value} {base : Heap} {f : Addr} {cdv : Value} {A : Around} {outer : List PySem.Env} {s : Shared} {H : Hp} {E : XK} {k : Nat} {c : Orc} (T : Tx P w K mg base) (KA : KnAll P w K mg base tab k c) (hr : Rm (k + 4) (A.deeper (envOfC "_law_draw" (defScope (top 18)) s.heap.objs.size f cdv))) :
    QSs (cxOf (L2.CX P w) P w K mg base N_10 "_law_draw" (defScope (top 18)) f cdv A outer s H E) (defBody (top 18)) (b__law_draw c) := by
  have nd := sc_10.nd
  have nm := nm_10
  have hk := hr.mono (Nat.le_add_right k 4)
  exact qss_cons (qs_set 2 nd (q_ix hr (q_var 0 nm) (q_str))) (qss_cons (qs_sub hr (q_var 0 nm) (q_str) (q_op r_add (q_var 2 nm) (q_int))) (qss_cons (qs_set 3 nd (q_op r_mod (q_callTy c_int T.f_int bt_int (qa_cons (q_var 2 nm) (qa_nil))) (q_callB c_len T.f_len bb_len (qa_cons (q_ix hr (q_var 0 nm) (q_str)) (qa_nil))))) (qss_cons (qs_set 4 nd (q_ix hr (q_ix hr (q_var 0 nm) (q_str)) (q_var 3 nm))) (qss_cons (qs_if (qt_cmp b_gt r_gt (q_var 4 nm) (q_int) (nomark _)) (qss_cons (qs_sub hr (q_ix hr (q_var 0 nm) (q_str)) (q_var 3 nm) (q_op r_fdiv (q_var 4 nm) (q_var 1 nm))) (qss_one (qs_ret (q_op r_mod (q_callTy c_int T.f_int bt_int (qa_cons (q_var 4 nm) (qa_nil))) (q_var 1 nm))))) (qss_nil)) (qss_cons (qs_set 5 nd (q_call (KA 8 "_law_mixed" 2 rfl) hk (qa_cons (q_call (KA 8 "_law_mixed" 2 rfl) hk (qa_cons (q_ix hr (q_ix hr (q_var 0 nm) (q_str)) (q_var 3 nm)) (qa_cons (q_var 2 nm) (qa_nil)))) (qa_cons (q_op r_add (q_int) (q_var 2 nm)) (qa_nil))))) (qss_one (qs_ret (q_op r_mod (q_op r_fdiv (q_callTy c_int T.f_int bt_int (qa_cons (q_op r_add (q_op r_mul (q_var 5 nm) (q_int)) (q_call (KA 8 "_law_mixed" 2 rfl) hk (qa_cons (q_var 5 nm) (qa_cons (q_op r_add (q_int) (q_var 2 nm)) (qa_nil))))) (qa_nil))) (q_int)) (q_var 1 nm)))))))))
theorem kn_10 {P : Program} {w : World} {K : PySem.W.Frag} {mg : Str → Option Value} {base : Heap} {k : Nat} {c : Orc} (T : Tx P w K mg base) (KA : KnAll P w K mg base tab k c) : Kn P w K mg base (k + 5) "_law_draw" 2 (runZ 2 6 (b__law_draw c)) := by
  obtain ⟨fd, F, hb⟩ := T.d_10
  exact ⟨⟨_, fd, ["_law_state", "_law_many"], rfl, fn_z (N := N_10) F sc_10 rfl (fun cdv A outer s H E hr => q_10 T KA hr), T.m_10, F.kp, hb⟩, ary_runZ⟩
theorem kz_10 {P : Program} {w : World} {K : PySem.W.Frag} {mg : Str → Option Value} {base : Heap} (T : Tx P w K mg base) : Kn P w K mg base 0 "_law_draw" 2 (fun _ => bad) := by
  obtain ⟨fd, F, hb⟩ := T.d_10
  exact ⟨⟨_, fd, ["_law_state", "_law_many"], rfl, fn_z0 rfl, T.m_10, F.kp, hb⟩, fun _ _ _ => rfl⟩
def N_11 : List Str := ["_law_near", "_law_far"]
theorem sc_11 : FnScope N_11 ["_law_near", "_law_far"] (defScope (top 19)) := ⟨rfl, rfl, rfl, by decide +kernel, rfl, by decide +kernel, by decide +kernel⟩
theorem nm_11 : NmOk N_11 := by unfold NmOk; decide +kernel
theorem q_11 {P : Program} {w : World} {K : PySem.W.Frag} {mg : Str → Option Value} {base : Heap} {f : Addr} {cdv : Value} {A : Around} {outer : List PySem.Env} {s : Shared} {H : Hp} {E : XK} {k : Nat} {c : Orc} (T : Tx P w K mg base) (KA : KnAll P w K mg base tab k c) (hr : Rm (k + 4) (A.deeper (envOfC "_law_in" (defScope (top 19)) s.heap.objs.size f cdv))) :
    QSs (cxOf (L2.CX P w) P w K mg base N_11 "_law_in" (defScope (top 19)) f cdv A outer s H E) (defBody (top 19)) (b__law_in c) := by
  have nd := sc_11.nd
  have nm := nm_11
  have hk := hr.mono (Nat.le_add_right k 4)
  exact qss_one (qs_ret (q_cmp r_lt (q_ix hr (q_ix hr (q_var 0 nm) (q_int)) (q_int)) (q_ix hr (q_ix hr (q_var 1 nm) (q_int)) (q_int)) (nomark _)))
theorem kn_11 {P : Program} {w : World} {K : PySem.W.Frag} {mg : Str → Option Value} {base : Heap} {k : Nat} {c : Orc} (T : Tx P w K mg base) (KA : KnAll P w K mg base tab k c) : Kn P w K mg base (k + 5) "_law_in" 2 (runZ 2 2 (b__law_in c)) := by
  obtain ⟨fd, F, hb⟩ := T.d_11
  exact ⟨⟨_, fd, ["_law_near", "_law_far"], rfl, fn_z (N := N_11) F sc_11 rfl (fun cdv A outer s H E hr => q_11 T KA hr), T.m_11, F.kp, hb⟩, ary_runZ⟩
theorem kz_11 {P : Program} {w : World} {K : PySem.W.Frag} {mg : Str → Option Value} {base : Heap} (T : Tx P w K mg base) : Kn P w K mg base 0 "_law_in" 2 (fun _ => bad) := by
  obtain ⟨fd, F, hb⟩ := T.d_11
  exact ⟨⟨_, fd, ["_law_near", "_law_far"], rfl, fn_z0 rfl, T.m_11, F.kp, hb⟩, fun _ _ _ => rfl⟩
def N_12 : List Str := ["_law_near", "_law_far"]
theorem sc_12 : FnScope N_12 ["_law_near", "_law_far"] (defScope (top 20)) := ⟨rfl, rfl, rfl, by decide +kernel, rfl, by decide +kernel, by decide +kernel⟩
theorem nm_12 : NmOk N_12 := by unfold NmOk; decide +kernel
theorem q_12 {P : Program} {w : World} {K : PySem.W.Frag} {mg : Str → Option Value} {base : Heap} {f : Addr} {cdv : Value} {A : Around} {outer : List PySem.Env} {s : Shared} {H : Hp} {E : XK} {k : Nat} {c : Orc} (T : Tx P w K mg base) (KA : KnAll P w K mg base tab k c) (hr : Rm (k + 4) (A.deeper (envOfC "_law_out" (defScope (top 20)) s.heap.objs.size f cdv))) :
    QSs (cxOf (L2.CX P w) P w K mg base N_12 "_law_out" (defScope (top 20)) f cdv A outer s H E) (defBody (top 20)) (b__law_out c) := by
  have nd := sc_12.nd
  have nm := nm_12
  have hk := hr.mono (Nat.le_add_right k 4)
  exact qss_cons (qs_if (qt_cmp b_is r_is (q_ix hr (q_var 0 nm) (q_int)) (q_non) (nomark _)) (qss_one (qs_ret (q_bl))) (qss_nil)) (qss_one (qs_ret (q_or (q_cmp r_is (q_ix hr (q_var 1 nm) (q_int)) (q_non) (nomark _)) (q_one (q_cmp r_lt (q_ix hr (q_ix hr (q_var 0 nm) (q_int)) (q_int)) (q_ix hr (q_ix hr (q_var 1 nm) (q_int)) (q_int)) (nomark _))))))
theorem kn_12 {P : Program} {w : World} {K : PySem.W.Frag} {mg : Str → Option Value} {base : Heap} {k : Nat} {c : Orc} (T : Tx P w K mg base) (KA : KnAll P w K mg base tab k c) : Kn P w K mg base (k + 5) "_law_out" 2 (runZ 2 2 (b__law_out c)) := by
  obtain ⟨fd, F, hb⟩ := T.d_12
  exact ⟨⟨_, fd, ["_law_near", "_law_far"], rfl, fn_z (N := N_12) F sc_12 rfl (fun cdv A outer s H E hr => q_12 T KA hr), T.m_12, F.kp, hb⟩, ary_runZ⟩
theorem kz_12 {P : Program} {w : World} {K : PySem.W.Frag} {mg : Str → Option Value} {base : Heap} (T : Tx P w K mg base) : Kn P w K mg base 0 "_law_out" 2 (fun _ => bad) := by
  obtain ⟨fd, F, hb⟩ := T.d_12
  exact ⟨⟨_, fd, ["_law_near", "_law_far"], rfl, fn_z0 rfl, T.m_12, F.kp, hb⟩, fun _ _ _ => rfl⟩
def N_13 : List Str := ["_law_near", "_law_far"]
theorem sc_13 : FnScope N_13 ["_law_near", "_law_far"] (defScope (top 21)) := ⟨rfl, rfl, rfl, by decide +kernel, rfl, by decide +kernel, by decide +kernel⟩
theorem nm_13 : NmOk N_13 := by unfold NmOk; decide +kernel
theorem q_13 {P : Program} {w : World} {K : PySem.W.Frag} {mg : Str → Option Value} {base : Heap} {f : Addr} {cdv : Value} {A : Around} {outer : List PySem.Env} {s : Shared} {H : Hp} {E : XK} {k : Nat} {c : Orc} (T : Tx P w K mg base) (KA : KnAll P w K mg base tab k c) (hr : Rm (k + 4) (A.deeper (envOfC "_law_turned" (defScope (top 21)) s.heap.objs.size f cdv))) :
    QSs (cxOf (L2.CX P w) P w K mg base N_13 "_law_turned" (defScope (top 21)) f cdv A outer s H E) (defBody (top 21)) (b__law_turned c) := by
  have nd := sc_13.nd
  have nm := nm_13
  have hk := hr.mono (Nat.le_add_right k 4)
  exact qss_one (qs_ret (q_and (q_call (KA 11 "_law_in" 2 rfl) hk (qa_cons (q_var 0 nm) (qa_cons (q_var 1 nm) (qa_nil)))) (q_one (q_call (KA 12 "_law_out" 2 rfl) hk (qa_cons (q_var 1 nm) (qa_cons (q_var 0 nm) (qa_nil)))))))
theorem kn_13 {P : Program} {w : World} {K : PySem.W.Frag} {mg : Str → Option Value} {base : Heap} {k : Nat} {c : Orc} (T : Tx P w K mg base) (KA : KnAll P w K mg base tab k c) : Kn P w K mg base (k + 5) "_law_turned" 2 (runZ 2 2 (b__law_turned c)) := by
  obtain ⟨fd, F, hb⟩ := T.d_13
  exact ⟨⟨_, fd, ["_law_near", "_law_far"], rfl, fn_z (N := N_13) F sc_13 rfl (fun cdv A outer s H E hr => q_13 T KA hr), T.m_13, F.kp, hb⟩, ary_runZ⟩
theorem kz_13 {P : Program} {w : World} {K : PySem.W.Frag} {mg : Str → Option Value} {base : Heap} (T : Tx P w K mg base) : Kn P w K mg base 0 "_law_turned" 2 (fun _ => bad) := by
  obtain ⟨fd, F, hb⟩ := T.d_13
  exact ⟨⟨_, fd, ["_law_near", "_law_far"], rfl, fn_z0 rfl, T.m_13, F.kp, hb⟩, fun _ _ _ => rfl⟩
def N_14 : List Str := ["_law_thing"]
theorem sc_14 : FnScope N_14 ["_law_thing"] (defScope (top 22)) := ⟨rfl, rfl, rfl, by decide +kernel, rfl, by decide +kernel, by decide +kernel⟩
theorem nm_14 : NmOk N_14 := by unfold NmOk; decide +kernel
theorem q_14 {P : Program} {w : World} {K : PySem.W.Frag} {mg : Str → Option Value} {base : Heap} {f : Addr} {cdv : Value} {A : Around} {outer : List PySem.Env} {s : Shared} {H : Hp} {E : XK} {k : Nat} {c : Orc} (T : Tx P w K mg base) (KA : KnAll P w K mg base tab k c) (hr : Rm (k + 4) (A.deeper (envOfC "_law_early" (defScope (top 22)) s.heap.objs.size f cdv))) :
    QSs (cxOf (L2.CX P w) P w K mg base N_14 "_law_early" (defScope (top 22)) f cdv A outer s H E) (defBody (top 22)) (b__law_early c) := by
  have nd := sc_14.nd
  have nm := nm_14
  have hk := hr.mono (Nat.le_add_right k 4)
  exact qss_one (qs_ret (q_and (q_cmp r_isNot (q_ix hr (q_var 0 nm) (q_int)) (q_non) (nomark _)) (q_one (q_cmp r_lt (q_ix hr (q_ix hr (q_var 0 nm) (q_int)) (q_int)) (q_ix hr (q_ix hr (q_var 0 nm) (q_int)) (q_int)) (nomark _)))))
theorem kn_14 {P : Program} {w : World} {K : PySem.W.Frag} {mg : Str → Option Value} {base : Heap} {k : Nat} {c : Orc} (T : Tx P w K mg base) (KA : KnAll P w K mg base tab k c) : Kn P w K mg base (k + 5) "_law_early" 1 (runZ 1 1 (b__law_early c)) := by
  obtain ⟨fd, F, hb⟩ := T.d_14
  exact ⟨⟨_, fd, ["_law_thing"], rfl, fn_z (N := N_14) F sc_14 rfl (fun cdv A outer s H E hr => q_14 T KA hr), T.m_14, F.kp, hb⟩, ary_runZ⟩
theorem kz_14 {P : Program} {w : World} {K : PySem.W.Frag} {mg : Str → Option Value} {base : Heap} (T : Tx P w K mg base) : Kn P w K mg base 0 "_law_early" 1 (fun _ => bad) := by
  obtain ⟨fd, F, hb⟩ := T.d_14
  exact ⟨⟨_, fd, ["_law_thing"], rfl, fn_z0 rfl, T.m_14, F.kp, hb⟩, fun _ _ _ => rfl⟩
def N_15 : List Str := ["_law_call", "error"]
theorem sc_15 : FnScope N_15 ["_law_call"] (defScope (top 23)) := ⟨rfl, rfl, rfl, by decide +kernel, rfl, by decide +kernel, by decide +kernel⟩
theorem nm_15 : NmOk N_15 := by unfold NmOk; decide +kernel
theorem q_15 {P : Program} {w : World} {K : PySem.W.Frag} {mg : Str → Option Value} {base : Heap} {f : Addr} {cdv : Value} {A : Around} {outer : List PySem.Env} {s : Shared} {H : Hp} {E : XK} {k : Nat} {c : Orc} {d0 : D} {dd : M D} (T : Tx P w K mg base) (KA : KnAll P w K mg base tab k c) (hr : Rm (k + 3) (A.deeper (envOfC "_law_heard" (defScope (top 23)) s.heap.objs.size f cdv))) (deed : ∀ (pn : List (Addr × Obj)) (xe : Value → Shared → Prop) (p1 p2 : Pos), QE ((cxOf (L2.CX P w) P w K mg base N_15 "_law_heard" (defScope (top 23)) f cdv A outer s H E).tr pn xe) (.Call (.Name "_law_call" p1) [] [] p2) (eDeed d0 dd)) :
    QSs (cxOf (L2.CX P w) P w K mg base N_15 "_law_heard" (defScope (top 23)) f cdv A outer s H E) (defBody (top 23)) (b__law_heard c (eDeed d0 dd)) := by
  have nd := sc_15.nd
  have nm := nm_15
  have hk := hr.mono (Nat.le_add_right k 3)
  exact qss_one (qs_try nd T.sub (fun pn xe po => qss_one (qs_ret (q_lst (qa_cons (deed _ _ _ _) (qa_nil))))) (.cons rfl (by kernel_rfl) T.c_BadNumber rfl rfl (fun a pn => qss_one (qs_ret (q_tup (qa_cons (q_str) (qa_cons (q_xf T.l_given (q_var 1 nm)) (qa_nil)))))) (.cons rfl (by kernel_rfl) T.c_BadPairs rfl rfl (fun a pn => qss_one (qs_ret (q_tup (qa_cons (q_str) (qa_cons (q_xf T.l_given (q_var 1 nm)) (qa_nil)))))) (.nil))))
theorem un_15 (c : Orc) : Uni 2 (b__law_heard c) := by
  exact uni_of fun d0 dd => rg_try (rg_ret (re_lst1 re_deed)) (.cons (rg_ret (fun _ _ => rfl)) (.cons (rg_ret (fun _ _ => rfl)) (.nil)))
def N_16 : List Str := ["_law_state", "_law_size", "_law_rows", "_law_left", "_law_turned_here", "_law_one", "_law_other", "_law_names"]
theorem sc_16 : FnScope N_16 ["_law_state", "_law_size"] (defScope (top 24)) := ⟨rfl, rfl, rfl, by decide +kernel, rfl, by decide +kernel, by decide +kernel⟩
theorem nm_16 : NmOk N_16 := by unfold NmOk; decide +kernel
theorem q_16 {P : Program} {w : World} {K : PySem.W.Frag} {mg : Str → Option Value} {base : Heap} {f : Addr} {cdv : Value} {A : Around} {outer : List PySem.Env} {s : Shared} {H : Hp} {E : XK} {k : Nat} {c : Orc} (T : Tx P w K mg base) (KA : KnAll P w K mg base tab k c) (hr : Rm (k + 4) (A.deeper (envOfC "_law_pairs" (defScope (top 24)) s.heap.objs.size f cdv))) :
    QSs (cxOf (L2.CX P w) P w K mg base N_16 "_law_pairs" (defScope (top 24)) f cdv A outer s H E) (defBody (top 24)) (b__law_pairs c) := by
  have nd := sc_16.nd
  have nm := nm_16
  have hk := hr.mono (Nat.le_add_right k 4)
  exact qss_cons (qs_set 2 nd (q_lst (qa_cons (q_lstR1 rfl T.f_list T.f_range (q_var 1 nm)) (qa_cons (q_lst (qa_nil)) (qa_nil))))) (qss_cons (qs_set 3 nd (q_lstR1 rfl T.f_list T.f_range (q_var 1 nm))) (qss_cons (qs_while 100000 pOwn (qt_cmp (b_fPD _) (r_ne hr) (q_var 3 nm) (q_lst (qa_nil)) (nomark _)) (qss_one (qs_expr (q_lm PySem.F.slot_list_append PySem.F.type_list_append m_app (q_ix hr (q_var 2 nm) (q_int)) (qa_cons (q_lm PySem.F.slot_list_pop PySem.F.type_list_pop m_popAt (q_var 3 nm) (qa_cons (q_call (KA 10 "_law_draw" 2 rfl) hk (qa_cons (q_var 0 nm) (qa_cons (q_callB c_len T.f_len bb_len (qa_cons (q_var 3 nm) (qa_nil))) (qa_nil)))) (qa_nil))) (qa_nil)))))) (qss_cons (qs_set 4 nd (q_lst (qa_nil))) (qss_cons (qs_for pOwn rfl (qi_rng1 T.f_range (qa_cons (q_var 1 nm) (qa_nil))) (qg_name 5 nd) (qss_one (qs_for pOwn rfl (qi_rng1 T.f_range (qa_cons (q_var 1 nm) (qa_nil))) (qg_name 6 nd) (qss_one (qs_if ((qw_and (qt_cmp b_lt r_lt (q_var 5 nm) (q_var 6 nm) (nomark _)) (qw_and1 (qt_cmp b_lt r_lt (q_idx (q_ix hr (q_var 2 nm) (q_int)) (qa_cons (q_var 5 nm) (qa_nil))) (q_idx (q_ix hr (q_var 2 nm) (q_int)) (qa_cons (q_var 6 nm) (qa_nil))) (nomark _)))).t) (qss_one (qs_expr (q_lm PySem.F.slot_list_append PySem.F.type_list_append m_app (q_var 4 nm) (qa_cons (q_tup (qa_cons (q_var 5 nm) (qa_cons (q_var 6 nm) (qa_nil)))) (qa_nil))))) (qss_nil)))))) (qss_cons (qs_if (qt_cmp (b_fPD _) (r_eq hr) (q_call (KA 10 "_law_draw" 2 rfl) hk (qa_cons (q_var 0 nm) (qa_cons (q_int) (qa_nil)))) (q_int) (nomark _)) (qss_one (qs_ret (q_callTy c_tuple T.f_tuple bt_tuple (qa_cons (q_var 4 nm) (qa_nil))))) (qss_nil)) (qss_cons (qs_asg (q_tup (qa_cons (q_lst (qa_nil)) (qa_cons (q_lstR1 rfl T.f_list T.f_range (q_var 1 nm)) (qa_nil)))) (qg_tup rfl (qgs_cons (qg_name 7 nd) (qgs_cons (qg_name 3 nd) (qgs_nil))) (gl_cons (gl_cons (gl_nil))))) (qss_cons (qs_while 100000 pOwn (qt_cmp (b_fPD _) (r_ne hr) (q_var 3 nm) (q_lst (qa_nil)) (nomark _)) (qss_one (qs_expr (q_lm PySem.F.slot_list_append PySem.F.type_list_append m_app (q_var 7 nm) (qa_cons (q_lm PySem.F.slot_list_pop PySem.F.type_list_pop m_popAt (q_var 3 nm) (qa_cons (q_call (KA 10 "_law_draw" 2 rfl) hk (qa_cons (q_var 0 nm) (qa_cons (q_callB c_len T.f_len bb_len (qa_cons (q_var 3 nm) (qa_nil))) (qa_nil)))) (qa_nil))) (qa_nil)))))) (qss_one (qs_ret (q_callTy c_tuple T.f_tuple bt_tuple (qa_cons (q_callB (c_sortedD hr rfl) T.f_sorted bb_sorted (qa_cons (q_lc [("_law_one", 5), ("_law_other", 6)] rfl nd (qi_seq (q_var 4 nm)) (blkOk_by (by kernel_rfl)) (fun _ _ _ _ _ => qg_tup rfl (qgs_cons (qg_name 5 nd) (qgs_cons (qg_name 6 nd) (qgs_nil))) (gl_cons (gl_cons (gl_nil)))) (fun _ _ _ _ _ => qts_nil) (fun _ _ _ _ _ => q_tup (qa_cons (q_ix hr (q_var 7 nm) (q_var 5 nm)) (qa_cons (q_ix hr (q_var 7 nm) (q_var 6 nm)) (qa_nil)))) (by decide)) (qa_nil))) (qa_nil))))))))))))
theorem kn_16 {P : Program} {w : World} {K : PySem.W.Frag} {mg : Str → Option Value} {base : Heap} {k : Nat} {c : Orc} (T : Tx P w K mg base) (KA : KnAll P w K mg base tab k c) : Kn P w K mg base (k + 5) "_law_pairs" 2 (runZ 2 8 (b__law_pairs c)) := by
  obtain ⟨fd, F, hb⟩ := T.d_16
  exact ⟨⟨_, fd, ["_law_state", "_law_size"], rfl, fn_z (N := N_16) F sc_16 rfl (fun cdv A outer s H E hr => q_16 T KA hr), T.m_16, F.kp, hb⟩, ary_runZ⟩
theorem kz_16 {P : Program} {w : World} {K : PySem.W.Frag} {mg : Str → Option Value} {base : Heap} (T : Tx P w K mg base) : Kn P w K mg base 0 "_law_pairs" 2 (fun _ => bad) := by
  obtain ⟨fd, F, hb⟩ := T.d_16
  exact ⟨⟨_, fd, ["_law_state", "_law_size"], rfl, fn_z0 rfl, T.m_16, F.kp, hb⟩, fun _ _ _ => rfl⟩
def N_17 : List Str := ["_law_size", "_law_pairs_here", "_law_one", "_law_other", "_law_near", "_law_far"]
theorem sc_17 : FnScope N_17 ["_law_size", "_law_pairs_here"] (defScope (top 25)) := ⟨rfl, rfl, rfl, by decide +kernel, rfl, by decide +kernel, by decide +kernel⟩
theorem nm_17 : NmOk N_17 := by unfold NmOk; decide +kernel
theorem q_17 {P : Program} {w : World} {K : PySem.W.Frag} {mg : Str → Option Value} {base : Heap} {f : Addr} {cdv : Value} {A : Around} {outer : List PySem.Env} {s : Shared} {H : Hp} {E : XK} {k : Nat} {c : Orc} (T : Tx P w K mg base) (KA : KnAll P w K mg base tab k c) (hr : Rm (k + 4) (A.deeper (envOfC "_law_are_pairs" (defScope (top 25)) s.heap.objs.size f cdv))) :
    QSs (cxOf (L2.CX P w) P w K mg base N_17 "_law_are_pairs" (defScope (top 25)) f cdv A outer s H E) (defBody (top 25)) (b__law_are_pairs c) := by
  have nd := sc_17.nd
  have nm := nm_17
  have hk := hr.mono (Nat.le_add_right k 4)
  exact qss_cons (qs_for pOwn rfl (qi_seq (q_var 1 nm)) (qg_tup rfl (qgs_cons (qg_name 2 nd) (qgs_cons (qg_name 3 nd) (qgs_nil))) (gl_cons (gl_cons (gl_nil)))) (qss_one (qs_if (qt_cmp (b_fPD _) (r_ne hr) (q_lc [("_law_near", 4), ("_law_far", 5)] rfl nd (qi_seq (q_var 1 nm)) (blkOk_by (by kernel_rfl)) (fun _ _ _ _ _ => qg_tup rfl (qgs_cons (qg_name 4 nd) (qgs_cons (qg_name 5 nd) (qgs_nil))) (gl_cons (gl_cons (gl_nil)))) (fun _ _ _ _ _ => qts_one ((qw_and (qt_cmp (b_fPD _) (r_eq hr) (q_var 4 nm) (q_var 3 nm) (nomark _)) (qw_and1 (qt_cmp (b_fPD _) (r_notIn hr) (q_tup (qa_cons (q_var 2 nm) (qa_cons (q_var 5 nm) (qa_nil)))) (q_var 1 nm) (by rfl)))).t)) (fun _ _ _ _ _ => q_int) (by decide)) (q_lst (qa_nil)) (nomark _)) (qss_one (qs_ret (q_bl))) (qss_nil)))) (qss_one (qs_ret (q_bl)))
theorem kn_17 {P : Program} {w : World} {K : PySem.W.Frag} {mg : Str → Option Value} {base : Heap} {k : Nat} {c : Orc} (T : Tx P w K mg base) (KA : KnAll P w K mg base tab k c) : Kn P w K mg base (k + 5) "_law_are_pairs" 2 (runZ 2 6 (b__law_are_pairs c)) := by
  obtain ⟨fd, F, hb⟩ := T.d_17
  exact ⟨⟨_, fd, ["_law_size", "_law_pairs_here"], rfl, fn_z (N := N_17) F sc_17 rfl (fun cdv A outer s H E hr => q_17 T KA hr), T.m_17, F.kp, hb⟩, ary_runZ⟩
theorem kz_17 {P : Program} {w : World} {K : PySem.W.Frag} {mg : Str → Option Value} {base : Heap} (T : Tx P w K mg base) : Kn P w K mg base 0 "_law_are_pairs" 2 (fun _ => bad) := by
  obtain ⟨fd, F, hb⟩ := T.d_17
  exact ⟨⟨_, fd, ["_law_size", "_law_pairs_here"], rfl, fn_z0 rfl, T.m_17, F.kp, hb⟩, fun _ _ _ => rfl⟩
def N_18 : List Str := ["_law_state", "_law_size", "_law_pairs_here", "_law_history", "_law_at"]
theorem sc_18 : FnScope N_18 ["_law_state"] (defScope (top 26)) := ⟨rfl, rfl, rfl, by decide +kernel, rfl, by decide +kernel, by decide +kernel⟩
theorem nm_18 : NmOk N_18 := by unfold NmOk; decide +kernel
theorem q_18 {P : Program} {w : World} {K : PySem.W.Frag} {mg : Str → Option Value} {base : Heap} {f : Addr} {cdv : Value} {A : Around} {outer : List PySem.Env} {s : Shared} {H : Hp} {E : XK} {k : Nat} {c : Orc} (T : Tx P w K mg base) (KA : KnAll P w K mg base tab k c) (hcd : cdv = .ref (He.codeOf K ("_law_back_right", none))) (hr : Rm (k + 4) (A.deeper (envOfC "_law_back_right" (defScope (top 26)) s.heap.objs.size f cdv))) :
    QSs (cxOf (L2.CX P w) P w K mg base N_18 "_law_back_right" (defScope (top 26)) f cdv A outer s H E) (defBody (top 26)) (b__law_back_right c) := by
  subst hcd
  obtain ⟨fd15, F15, hb15⟩ := T.d_15
  have nd := sc_18.nd
  have nm := nm_18
  have hk := hr.mono (Nat.le_add_right k 4)
  exact qss_cons (qs_set 1 nd (q_call (KA 10 "_law_draw" 2 rfl) hk (qa_cons (q_var 0 nm) (qa_cons (q_int) (qa_nil))))) (qss_cons (qs_set 2 nd (q_call (KA 16 "_law_pairs" 2 rfl) hk (qa_cons (q_var 0 nm) (qa_cons (q_var 1 nm) (qa_nil))))) (qss_cons (qs_if ((qw_and (qt_cmp (b_fPD _) (r_eq hr) (q_call (KA 10 "_law_draw" 2 rfl) hk (qa_cons (q_var 0 nm) (qa_cons (q_int) (qa_nil)))) (q_int) (nomark _)) (qw_and1 (qt_cmp b_neU (r_neU hr) (q_var 2 nm) (q_tup (qa_nil)) (nomark _)))).t) (qss_cons (qs_set 4 nd (q_call (KA 10 "_law_draw" 2 rfl) hk (qa_cons (q_var 0 nm) (qa_cons (q_callB c_len T.f_len bb_len (qa_cons (q_var 2 nm) (qa_nil))) (qa_nil))))) (qss_one (qs_set 2 nd (q_op r_add (q_slice (q_var 2 nm) qo_none (qo_some (q_var 4 nm))) (q_slice (q_var 2 nm) (qo_some (q_op r_add (q_var 4 nm) (q_int))) qo_none))))) (qss_nil)) (qss_cons (qs_if (qt_not (qt_val (q_call (KA 17 "_law_are_pairs" 2 rfl) hk (qa_cons (q_var 1 nm) (qa_cons (q_var 2 nm) (qa_nil)))))) (qss_one (qs_ret (q_cmp (r_eq hr) (q_lam (un_15 c) F15 hb15 T.m_15 sc_15 nm_15 rfl (by kernel_rfl) (fun cdv s H E d0 dd hr3 deed => q_15 T KA hr3 deed) T.kt_18 rfl hr (by kernel_rfl) (by rfl) (fun _ _ _ _ _ => rfl) (fun A outer s H E fA cA hr3 => by have hr := hr3; have hk := hr3.mono (Nat.le_add_right k 2); exact q_call (Kn.new (KA 7 "told_back" 2 rfl)) hk (qa_cons (q_var 1 nm) (qa_cons (q_var 2 nm) (qa_nil))))) (q_tup (qa_cons (q_str) (qa_cons (q_var 2 nm) (qa_nil)))) (nomark _)))) (qss_nil)) (qss_cons (qs_set 3 nd (q_call (Kn.new (KA 7 "told_back" 2 rfl)) hk (qa_cons (q_var 1 nm) (qa_cons (q_var 2 nm) (qa_nil))))) (qss_one (qs_ret (q_and (q_cmp (r_eq hr) (q_callB (c_repr hr) T.f_repr bb_repr (qa_cons (q_call (Kn.new (KA 7 "told_back" 2 rfl)) hk (qa_cons (q_var 1 nm) (qa_cons (q_var 2 nm) (qa_nil)))) (qa_nil))) (q_callB (c_repr hr) T.f_repr bb_repr (qa_cons (q_var 3 nm) (qa_nil))) (nomark _)) (q_one (q_call (KA 19 "_law_back_is" 3 rfl) hk (qa_cons (q_var 1 nm) (qa_cons (q_var 2 nm) (qa_cons (q_var 3 nm) (qa_nil)))))))))))))
theorem kn_18 {P : Program} {w : World} {K : PySem.W.Frag} {mg : Str → Option Value} {base : Heap} {k : Nat} {c : Orc} (T : Tx P w K mg base) (KA : KnAll P w K mg base tab k c) : Kn P w K mg base (k + 5) "_law_back_right" 1 (runZ 1 5 (b__law_back_right c)) := by
  obtain ⟨fd, F, hb⟩ := T.d_18
  exact ⟨⟨_, fd, ["_law_state"], rfl, fn_zC (N := N_18) F sc_18 rfl (fun cdv hcd A outer s H E hr => q_18 T KA hcd hr), T.m_18, F.kp, hb⟩, ary_runZ⟩
theorem kz_18 {P : Program} {w : World} {K : PySem.W.Frag} {mg : Str → Option Value} {base : Heap} (T : Tx P w K mg base) : Kn P w K mg base 0 "_law_back_right" 1 (fun _ => bad) := by
  obtain ⟨fd, F, hb⟩ := T.d_18
  exact ⟨⟨_, fd, ["_law_state"], rfl, fn_z0 rfl, T.m_18, F.kp, hb⟩, fun _ _ _ => rfl⟩
def N_19 : List Str := ["_law_size", "_law_pairs_here", "_law_history", "_law_found", "_law_one", "_law_near", "_law_call", "_law_other", "_law_far"]
theorem sc_19 : FnScope N_19 ["_law_size", "_law_pairs_here", "_law_history"] (defScope (top 27)) := ⟨rfl, rfl, rfl, by decide +kernel, rfl, by decide +kernel, by decide +kernel⟩
theorem nm_19 : NmOk N_19 := by unfold NmOk; decide +kernel
theorem q_19 {P : Program} {w : World} {K : PySem.W.Frag} {mg : Str → Option Value} {base : Heap} {f : Addr} {cdv : Value} {A : Around} {outer : List PySem.Env} {s : Shared} {H : Hp} {E : XK} {k : Nat} {c : Orc} (T : Tx P w K mg base) (KA : KnAll P w K mg base tab k c) (hr : Rm (k + 4) (A.deeper (envOfC "_law_back_is" (defScope (top 27)) s.heap.objs.size f cdv))) :
    QSs (cxOf (L2.CX P w) P w K mg base N_19 "_law_back_is" (defScope (top 27)) f cdv A outer s H E) (defBody (top 27)) (b__law_back_is c) := by
  have nd := sc_19.nd
  have nm := nm_19
  have hk := hr.mono (Nat.le_add_right k 4)
  exact qss_cons (qs_if ((qw_or (qt_cmp (b_fPD _) (r_ne hr) (q_callB c_len T.f_len bb_len (qa_cons (q_ix hr (q_var 2 nm) (q_int)) (qa_nil))) (q_var 0 nm) (nomark _)) (qw_or1 (qt_cmp (b_fPD _) (r_ne hr) (q_lc [("_law_call", 6)] rfl nd (qi_seq (q_ix hr (q_var 2 nm) (q_int))) (blkOk_by (by kernel_rfl)) (fun _ _ _ _ _ => qg_name 6 nd) (fun _ _ _ _ _ => qts_one (qt_cmp (b_fPD _) (r_ne hr) (q_ix hr (q_var 6 nm) (q_int)) (q_ix hr (q_var 6 nm) (q_int)) (nomark _))) (fun _ _ _ _ _ => q_var 6 nm) (by decide)) (q_lst (qa_nil)) (nomark _)))).t) (qss_one (qs_ret (q_bl))) (qss_nil)) (qss_cons (qs_set 3 nd (q_lst (qa_nil))) (qss_cons (qs_for pOwn rfl (qi_enm T.f_enumerate (qa_cons (q_ix hr (q_var 2 nm) (q_int)) (qa_nil))) (qg_tup rfl (qgs_cons (qg_name 4 nd) (qgs_cons (qg_name 5 nd) (qgs_nil))) (gl_cons (gl_cons (gl_nil)))) (qss_cons (qs_if ((qw_or (qt_cmp (b_fPD _) (r_ne hr) (q_lc [("_law_call", 6)] rfl nd (qi_seq (q_var 5 nm)) (blkOk_by (by kernel_rfl)) (fun _ _ _ _ _ => qg_name 6 nd) (fun _ _ _ _ _ => qts_one ((qw_and (qt_cmp b_isNot r_isNot (q_var 6 nm) (q_non) (nomark _)) (qw_and1 (qt_cmp (b_fPD _) (r_ne hr) (q_ix hr (q_var 6 nm) (q_int)) (q_ix hr (q_var 6 nm) (q_int)) (nomark _)))).t)) (fun _ _ _ _ _ => q_var 6 nm) (by decide)) (q_lst (qa_nil)) (nomark _)) (qw_or1 (qt_val (q_call (KA 14 "_law_early" 1 rfl) hk (qa_cons (q_var 5 nm) (qa_nil)))))).t) (qss_one (qs_ret (q_bl))) (qss_nil)) (qss_one (qs_set 3 nd (q_op r_add (q_var 3 nm) (q_lc [("_law_other", 7), ("_law_far", 8)] rfl nd (qi_enm T.f_enumerate (qa_cons (q_ix hr (q_var 2 nm) (q_int)) (qa_nil))) (blkOk_by (by kernel_rfl)) (fun _ _ _ _ _ => qg_tup rfl (qgs_cons (qg_name 7 nd) (qgs_cons (qg_name 8 nd) (qgs_nil))) (gl_cons (gl_cons (gl_nil)))) (fun _ _ _ _ _ => qts_one (qt_val (q_call (KA 13 "_law_turned" 2 rfl) hk (qa_cons (q_var 5 nm) (qa_cons (q_var 8 nm) (qa_nil)))))) (fun _ _ _ _ _ => q_tup (qa_cons (q_var 4 nm) (qa_cons (q_var 7 nm) (qa_nil)))) (by decide))))))) (qss_one (qs_ret (q_cmp (r_eq hr) (q_callTy c_tuple T.f_tuple bt_tuple (qa_cons (q_var 3 nm) (qa_nil))) (q_var 1 nm) (nomark _))))))
theorem kn_19 {P : Program} {w : World} {K : PySem.W.Frag} {mg : Str → Option Value} {base : Heap} {k : Nat} {c : Orc} (T : Tx P w K mg base) (KA : KnAll P w K mg base tab k c) : Kn P w K mg base (k + 5) "_law_back_is" 3 (runZ 3 9 (b__law_back_is c)) := by
  obtain ⟨fd, F, hb⟩ := T.d_19
  exact ⟨⟨_, fd, ["_law_size", "_law_pairs_here", "_law_history"], rfl, fn_z (N := N_19) F sc_19 rfl (fun cdv A outer s H E hr => q_19 T KA hr), T.m_19, F.kp, hb⟩, ary_runZ⟩
theorem kz_19 {P : Program} {w : World} {K : PySem.W.Frag} {mg : Str → Option Value} {base : Heap} (T : Tx P w K mg base) : Kn P w K mg base 0 "_law_back_is" 3 (fun _ => bad) := by
  obtain ⟨fd, F, hb⟩ := T.d_19
  exact ⟨⟨_, fd, ["_law_size", "_law_pairs_here", "_law_history"], rfl, fn_z0 rfl, T.m_19, F.kp, hb⟩, fun _ _ _ => rfl⟩
def N_20 : List Str := ["_law_script", "_law_state", "_law_turn", "_law_odd", "_law_some", "_law_pairs_here"]
theorem sc_20 : FnScope N_20 ["_law_script"] (defScope (top 28)) := ⟨rfl, rfl, rfl, by decide +kernel, rfl, by decide +kernel, by decide +kernel⟩
theorem nm_20 : NmOk N_20 := by unfold NmOk; decide +kernel
theorem q_20 {P : Program} {w : World} {K : PySem.W.Frag} {mg : Str → Option Value} {base : Heap} {f : Addr} {cdv : Value} {A : Around} {outer : List PySem.Env} {s : Shared} {H : Hp} {E : XK} {k : Nat} {c : Orc} (T : Tx P w K mg base) (KA : KnAll P w K mg base tab k c) (hcd : cdv = .ref (He.codeOf K ("law", none))) (hr : Rm (k + 4) (A.deeper (envOfC "law" (defScope (top 28)) s.heap.objs.size f cdv))) :
    QSs (cxOf (L2.CX P w) P w K mg base N_20 "law" (defScope (top 28)) f cdv A outer s H E) (defBody (top 28)) (b_law c) := by
  subst hcd
  obtain ⟨fd15, F15, hb15⟩ := T.d_15
  have nd := sc_20.nd
  have nm := nm_20
  have hk := hr.mono (Nat.le_add_right k 4)
  exact qss_cons (qs_set 1 nd (q_call (KA 9 "_law_begin" 1 rfl) hk (qa_cons (q_var 0 nm) (qa_nil)))) (qss_cons (qs_for pOwn rfl (qi_rng1 T.f_range (qa_cons (q_op r_add (q_int) (q_callB (c_min2 rfl) T.f_min bb_min (qa_cons (q_callB c_len T.f_len bb_len (qa_cons (q_var 0 nm) (qa_nil))) (qa_cons (q_int) (qa_nil))))) (qa_nil))) (qg_name 2 nd) (qss_one (qs_if (qt_not (qt_val (q_call (KA 18 "_law_back_right" 1 rfl) hk (qa_cons (q_var 1 nm) (qa_nil))))) (qss_one (qs_ret (q_bl))) (qss_nil)))) (qss_new [] (qss_cons (qs_for pOwn rfl (qi_seq (q_tup (qa_cons (q_non) (qa_cons (q_un u_neg (q_int)) (qa_cons (q_int) (qa_cons (q_bl) (qa_cons (q_str) (qa_cons (q_tup (qa_cons (q_int) (qa_nil))) (qa_nil))))))))) (qg_name 3 nd) (qss_one (qs_if (qt_cmp (b_fPD _) (r_ne hr) (q_callB (c_repr hr) T.f_repr bb_repr (qa_cons (q_lam (un_15 c) F15 hb15 T.m_15 sc_15 nm_15 rfl (by kernel_rfl) (fun cdv s H E d0 dd hr3 deed => q_15 T KA hr3 deed) T.kt_20 rfl hr (by kernel_rfl) (by rfl) (fun _ _ _ _ _ => rfl) (fun A outer s H E fA cA hr3 => by have hr := hr3; have hk := hr3.mono (Nat.le_add_right k 2); exact q_call (KA 7 "told_back" 2 rfl) hk (qa_cons (q_var 3 nm) (qa_cons (q_non) (qa_nil))))) (qa_nil))) (q_callB (c_repr hr) T.f_repr bb_repr (qa_cons (q_tup (qa_cons (q_str) (qa_cons (q_var 3 nm) (qa_nil)))) (qa_nil))) (nomark _)) (qss_one (qs_ret (q_bl))) (qss_nil)))) (qss_cons (qs_set 4 nd (q_lst (qa_cons (q_non) (qa_cons (q_lst (qa_nil)) (qa_cons (q_tup (qa_cons (q_int) (qa_nil))) (qa_cons (q_tup (qa_cons (q_tup (qa_cons (q_int) (qa_cons (q_int) (qa_nil)))) (qa_nil))) (qa_cons (q_tup (qa_cons (q_tup (qa_cons (q_int) (qa_cons (q_int) (qa_nil)))) (qa_nil))) (qa_cons (q_tup (qa_cons (q_tup (qa_cons (q_int) (qa_cons (q_int) (qa_nil)))) (qa_cons (q_tup (qa_cons (q_int) (qa_cons (q_int) (qa_nil)))) (qa_nil)))) (qa_cons (q_tup (qa_cons (q_tup (qa_cons (q_int) (qa_cons (q_int) (qa_nil)))) (qa_cons (q_tup (qa_cons (q_int) (qa_cons (q_int) (qa_nil)))) (qa_nil)))) (qa_nil)))))))))) (qss_cons (qs_for pOwn rfl (qi_seq (q_op r_add (q_var 4 nm) (q_lst (qa_cons (q_tup (qa_cons (q_tup (qa_cons (q_int) (qa_cons (q_int) (qa_nil)))) (qa_cons (q_tup (qa_cons (q_int) (qa_cons (q_int) (qa_nil)))) (qa_nil)))) (qa_cons (q_tup (qa_cons (q_tup (qa_cons (q_int) (qa_cons (q_bl) (qa_nil)))) (qa_nil))) (qa_cons (q_tup (qa_cons (q_tup (qa_cons (q_int) (qa_cons (q_int) (qa_nil)))) (qa_cons (q_tup (qa_cons (q_int) (qa_cons (q_int) (qa_nil)))) (qa_nil)))) (qa_cons (q_tup (qa_cons (q_tup (qa_cons (q_int) (qa_cons (q_int) (qa_cons (q_int) (qa_nil))))) (qa_nil))) (qa_cons (q_tup (qa_cons (q_lst (qa_cons (q_int) (qa_cons (q_int) (qa_nil)))) (qa_nil))) (qa_cons (q_tup (qa_cons (q_tup (qa_cons (q_int) (qa_cons (q_int) (qa_nil)))) (qa_cons (q_tup (qa_cons (q_int) (qa_cons (q_int) (qa_nil)))) (qa_nil)))) (qa_nil)))))))))) (qg_name 3 nd) (qss_one (qs_if (qt_cmp (b_fPD _) (r_ne hr) (q_callB (c_repr hr) T.f_repr bb_repr (qa_cons (q_lam (un_15 c) F15 hb15 T.m_15 sc_15 nm_15 rfl (by kernel_rfl) (fun cdv s H E d0 dd hr3 deed => q_15 T KA hr3 deed) T.kt_20 rfl hr (by kernel_rfl) (by rfl) (fun _ _ _ _ _ => rfl) (fun A outer s H E fA cA hr3 => by have hr := hr3; have hk := hr3.mono (Nat.le_add_right k 2); exact q_call (KA 7 "told_back" 2 rfl) hk (qa_cons (q_int) (qa_cons (q_var 3 nm) (qa_nil))))) (qa_nil))) (q_callB (c_repr hr) T.f_repr bb_repr (qa_cons (q_tup (qa_cons (q_str) (qa_cons (q_var 3 nm) (qa_nil)))) (qa_nil))) (nomark _)) (qss_one (qs_ret (q_bl))) (qss_nil)))) (qss_cons (qs_for pOwn rfl (qi_seq (q_tup (qa_cons (q_tup (qa_cons (q_tup (qa_cons (q_int) (qa_cons (q_int) (qa_nil)))) (qa_cons (q_tup (qa_cons (q_int) (qa_cons (q_int) (qa_nil)))) (qa_nil)))) (qa_cons (q_tup (qa_cons (q_tup (qa_cons (q_int) (qa_cons (q_int) (qa_nil)))) (qa_cons (q_tup (qa_cons (q_int) (qa_cons (q_int) (qa_nil)))) (qa_nil)))) (qa_cons (q_tup (qa_cons (q_tup (qa_cons (q_int) (qa_cons (q_int) (qa_nil)))) (qa_cons (q_tup (qa_cons (q_int) (qa_cons (q_int) (qa_nil)))) (qa_nil)))) (qa_nil)))))) (qg_name 5 nd) (qss_one (qs_if (qt_not (qt_val (q_call (KA 19 "_law_back_is" 3 rfl) hk (qa_cons (q_int) (qa_cons (q_var 5 nm) (qa_cons (q_call (KA 7 "told_back" 2 rfl) hk (qa_cons (q_int) (qa_cons (q_var 5 nm) (qa_nil)))) (qa_nil))))))) (qss_one (qs_ret (q_bl))) (qss_nil)))) (qss_one (qs_ret (q_call (KA 19 "_law_back_is" 3 rfl) hk (qa_cons (q_int) (qa_cons (q_tup (qa_nil)) (qa_cons (q_call (KA 7 "told_back" 2 rfl) hk (qa_cons (q_int) (qa_cons (q_tup (qa_nil)) (qa_nil)))) (qa_nil)))))))))))))
theorem kn_20 {P : Program} {w : World} {K : PySem.W.Frag} {mg : Str → Option Value} {base : Heap} {k : Nat} {c : Orc} (T : Tx P w K mg base) (KA : KnAll P w K mg base tab k c) : Kn P w K mg base (k + 5) "law" 1 (runZ 1 6 (b_law c)) := by
  obtain ⟨fd, F, hb⟩ := T.d_20
  exact ⟨⟨_, fd, ["_law_script"], rfl, fn_zC (N := N_20) F sc_20 rfl (fun cdv hcd A outer s H E hr => q_20 T KA hcd hr), T.m_20, F.kp, hb⟩, ary_runZ⟩
theorem kz_20 {P : Program} {w : World} {K : PySem.W.Frag} {mg : Str → Option Value} {base : Heap} (T : Tx P w K mg base) : Kn P w K mg base 0 "law" 1 (fun _ => bad) := by
  obtain ⟨fd, F, hb⟩ := T.d_20
  exact ⟨⟨_, fd, ["_law_script"], rfl, fn_z0 rfl, T.m_20, F.kp, hb⟩, fun _ _ _ => rfl⟩
theorem kn_all {P : Program} {w : World} {K : PySem.W.Frag} {mg : Str → Option Value} {base : Heap} (T : Tx P w K mg base) : ∀ k, KnAll P w K mg base tab (5 * k) (callZ bs k)
  | 0 => fun i x n h => by
    match i, h with
    | 0, h => cases h; exact kz_0 T
    | 1, h => cases h; exact kz_1 T
    | 2, h => cases h; exact kz_2 T
    | 3, h => cases h; exact kz_3 T
    | 4, h => cases h; exact kz_4 T
    | 5, h => cases h; exact kz_5 T
    | 6, h => cases h; exact kz_6 T
    | 7, h => cases h; exact kz_7 T
    | 8, h => cases h; exact kz_8 T
    | 9, h => cases h; exact kz_9 T
    | 10, h => cases h; exact kz_10 T
    | 11, h => cases h; exact kz_11 T
    | 12, h => cases h; exact kz_12 T
    | 13, h => cases h; exact kz_13 T
    | 14, h => cases h; exact kz_14 T
    | 15, h => cases h
    | 16, h => cases h; exact kz_16 T
    | 17, h => cases h; exact kz_17 T
    | 18, h => cases h; exact kz_18 T
    | 19, h => cases h; exact kz_19 T
    | 20, h => cases h; exact kz_20 T
    | n + 21, h => cases h
  | k + 1 => fun i x n h => by
    have KA := kn_all T k
    match i, h with
    | 0, h => cases h; exact kn_0 T KA
    | 1, h => cases h; exact kn_1 T KA
    | 2, h => cases h; exact kn_2 T KA
    | 3, h => cases h; exact kn_3 T KA
    | 4, h => cases h; exact kn_4 T KA
    | 5, h => cases h; exact kn_5 T KA
    | 6, h => cases h; exact kn_6 T KA
    | 7, h => cases h; exact kn_7 T KA
    | 8, h => cases h; exact kn_8 T KA
    | 9, h => cases h; exact kn_9 T KA
    | 10, h => cases h; exact kn_10 T KA
    | 11, h => cases h; exact kn_11 T KA
    | 12, h => cases h; exact kn_12 T KA
    | 13, h => cases h; exact kn_13 T KA
    | 14, h => cases h; exact kn_14 T KA
    | 15, h => cases h
    | 16, h => cases h; exact kn_16 T KA
    | 17, h => cases h; exact kn_17 T KA
    | 18, h => cases h; exact kn_18 T KA
    | 19, h => cases h; exact kn_19 T KA
    | 20, h => cases h; exact kn_20 T KA
    | n + 21, h => cases h
end L2.Z.Lw

set_option Elab.async false
set_option linter.all false
set_option maxRecDepth 100000
set_option maxHeartbeats 0
namespace L2.Z.Lw
open PySem PySem.Spec PyProof.Rows
def dAt (i : Nat) (n : Str) : He.DefD := ⟨(n, none), n, n, defArgs (top i), defBody (top i), defScope (top i), [], []⟩
def iAt (i j : Nat) (n : Str) : He.DefD := ⟨(n, some "__init__"), "__init__", n ++ ".__init__", defArgs (clsAt (top i) j), defBody (clsAt (top i) j), defScope (clsAt (top i) j), [], []⟩
def fn0 : List He.DefD := [dAt 5 "is_integer", dAt 6 "is_between", dAt 9 "is_pair", dAt 10 "are_pairs", dAt 11 "rows_along", dAt 12 "common_pairs", dAt 13 "two_rows", dAt 14 "told_back", dAt 16 "_law_mixed", dAt 17 "_law_begin", dAt 18 "_law_draw", dAt 19 "_law_in", dAt 20 "_law_out", dAt 21 "_law_turned", dAt 22 "_law_early", dAt 23 "_law_heard", dAt 24 "_law_pairs", dAt 25 "_law_are_pairs", dAt 26 "_law_back_right", dAt 27 "_law_back_is"]
def fn1 : List He.DefD := [dAt 28 "law", iAt 2 0 "BadNumber", iAt 3 0 "BadPairs"]
def fn : List He.DefD := fn0 ++ fn1
def fa0 : List He.Fa := [.glo "is_integer", .glo "is_between", .glo "is_pair", .glo "are_pairs", .glo "rows_along", .glo "common_pairs", .glo "two_rows", .glo "told_back", .glo "_law_mixed", .glo "_law_begin", .glo "_law_draw", .glo "_law_in", .glo "_law_out", .glo "_law_turned", .glo "_law_early", .glo "_law_heard", .glo "_law_pairs", .glo "_law_are_pairs", .glo "_law_back_right", .glo "_law_back_is"]
def fa1 : List He.Fa := [.glo "law", .glo "QueueError", .glo "BadNumber", .glo "BadPairs", .int "MOST_SIZE" 5, .free "all", .free "bool", .free "enumerate", .free "int", .free "isinstance", .free "len", .free "list", .free "min", .free "range", .free "repr", .free "sorted", .free "tuple", .free "zip", .meth "BadNumber" "__init__", .noat "BadNumber" "given"]
def fa2 : List He.Fa := [.meth "BadPairs" "__init__", .noat "BadPairs" "given"]
def fa : List He.Fa := fa0 ++ fa1 ++ fa2
def lo0 : List PySem.Str := ["QueueError", "BadNumber", "BadPairs", "is_integer", "is_between", "MOST_SIZE", "is_pair", "are_pairs", "rows_along", "common_pairs", "two_rows", "told_back", "_law_mixed", "_law_begin", "_law_draw", "_law_in", "_law_out", "_law_turned", "_law_early", "_law_heard", "_law_pairs", "_law_are_pairs", "_law_back_right", "_law_back_is"]
def lo : List PySem.Str := lo0
def ts : List He.Tab := []
def tf : List He.Defn := [("_law_back_right", none), ("law", none)]
def ex (K : PySem.W.Frag) : Bool := [nodupB (tf.map fun p => (He.cT K p).2), subL.all (fun q => decide (PySem.W.exmOne K (.ref (He.ga K q.1.1)) (.ref (He.ga K q.1.2)) = some q.2)), xcs.all (fun x => xfB K (He.ga K x)), oxB K (He.ga K "BadNumber") "ValueError.__new__" PySem.HandSPX.veTail, oxB K (He.ga K "BadPairs") "ValueError.__new__" PySem.HandSPX.veTail, ownBB K (He.ga K "QueueError") "ValueError.__init__"].all id
abbrev R : PySem.W.OpenRow := PySem.W.OpenLaw.row PySem.Challenge.rw_fewqueues_k39_whole_told_back
abbrev hk : PySem.W.Hook := hookZ 5 fa fn ts tf ex
def ob (s : PySem.W.SharedT) : He.AlX := obsZ 5 fa fn ts tf ex (HandSHeadRun.getT s)
theorem ob_eq (s : PySem.W.SharedT) : ob s = hk.obs s.abs := obsZ_eq (HandSHeadRun.getT_eq s)
theorem run (w : World) : HandSHeadRun.RunEq R (PySem.W.view R.prog [28]) hk ob 3000 lo w := by
  intro os
  kernel_rfl
theorem ex_at {K : PySem.W.Frag} (h : ex K = true) (i : Nat) {b : Bool} (e : ([nodupB (tf.map fun p => (He.cT K p).2), subL.all (fun q => decide (PySem.W.exmOne K (.ref (He.ga K q.1.1)) (.ref (He.ga K q.1.2)) = some q.2)), xcs.all (fun x => xfB K (He.ga K x)), oxB K (He.ga K "BadNumber") "ValueError.__new__" PySem.HandSPX.veTail, oxB K (He.ga K "BadPairs") "ValueError.__new__" PySem.HandSPX.veTail, ownBB K (He.ga K "QueueError") "ValueError.__init__"] : List Bool)[i]? = some b) : b = true := by
  have := List.all_eq_true.mp h b (List.mem_of_getElem? e)
  exact this
theorem kx_BadNumber {P : Program} {w : World} {K : PySem.W.Frag} {mg : Str → Option Value} {base h : Heap} [HasT] (X : K.In h) (G : h.Ns mainGlobals mg) (c : He.SaysX fa fn ts tf ex w h K) : KX P w K mg base "BadNumber" ["given"] := by
  obtain ⟨fd, F⟩ := c.t.d.def_ 21 (d := iAt 2 0 "BadNumber") rfl
  have m := He.meth_ok (c.t.d.fact 38 (f := .meth "BadNumber" "__init__") rfl)
  refine ⟨⟨"ValueError", "ValueError.__new__", "ValueError.__init__", PySem.HandSPX.veTail, _, fd, ["self", "given"], bas_VE, oxB_ok (ex_at c.more 3 rfl), He.glo_ok X G (c.t.d.fact 22 (f := .glo "BadNumber") rfl), m.at_, beq_iff_eq.mp m.fn, ?_, FunD.bindsN F fun _ _ _ _ _ _ us hl => match us, hl with | [_, _], _ => rfl⟩⟩
  exact init_1 bas_VE (oxB_ok (ex_at c.more 3 rfl)) (He.noat_ok (c.t.d.fact 39 (f := .noat "BadNumber" "given") rfl)) F ⟨rfl, rfl, rfl, by decide +kernel, rfl, by decide +kernel, by decide +kernel⟩ (by unfold NmOk; decide +kernel) rfl (by kernel_rfl) (by kernel_rfl) (bc_own bas_VE (by kernel_rfl) (ownBB_ok (He.glo_ok X G (c.t.d.fact 21 (f := .glo "QueueError") rfl)) (ex_at c.more 5 rfl)))
theorem kx_BadPairs {P : Program} {w : World} {K : PySem.W.Frag} {mg : Str → Option Value} {base h : Heap} [HasT] (X : K.In h) (G : h.Ns mainGlobals mg) (c : He.SaysX fa fn ts tf ex w h K) : KX P w K mg base "BadPairs" ["given"] := by
  obtain ⟨fd, F⟩ := c.t.d.def_ 22 (d := iAt 3 0 "BadPairs") rfl
  have m := He.meth_ok (c.t.d.fact 40 (f := .meth "BadPairs" "__init__") rfl)
  refine ⟨⟨"ValueError", "ValueError.__new__", "ValueError.__init__", PySem.HandSPX.veTail, _, fd, ["self", "given"], bas_VE, oxB_ok (ex_at c.more 4 rfl), He.glo_ok X G (c.t.d.fact 23 (f := .glo "BadPairs") rfl), m.at_, beq_iff_eq.mp m.fn, ?_, FunD.bindsN F fun _ _ _ _ _ _ us hl => match us, hl with | [_, _], _ => rfl⟩⟩
  exact init_1 bas_VE (oxB_ok (ex_at c.more 4 rfl)) (He.noat_ok (c.t.d.fact 41 (f := .noat "BadPairs" "given") rfl)) F ⟨rfl, rfl, rfl, by decide +kernel, rfl, by decide +kernel, by decide +kernel⟩ (by unfold NmOk; decide +kernel) rfl (by kernel_rfl) (by kernel_rfl) (bc_own bas_VE (by kernel_rfl) (ownBB_ok (He.glo_ok X G (c.t.d.fact 21 (f := .glo "QueueError") rfl)) (ex_at c.more 5 rfl)))
theorem tx_of {P : Program} {w : World} {K : PySem.W.Frag} {mg : Str → Option Value} {base h : Heap} (X : K.In h) (G : h.Ns mainGlobals mg) (c : He.SaysX fa fn ts tf ex w h K) (hB : ∀ p ∈ tf.map (He.cT K), LamX.TabB base mg p.1 p.2) : @Tx ⟨lamT tf K⟩ P w K mg base := by
  letI : HasT := ⟨lamT tf K⟩
  exact {
    f_all := He.free_ok X G (c.t.d.fact 25 (f := .free "all") rfl)
    f_bool := He.free_ok X G (c.t.d.fact 26 (f := .free "bool") rfl)
    f_enumerate := He.free_ok X G (c.t.d.fact 27 (f := .free "enumerate") rfl)
    f_int := He.free_ok X G (c.t.d.fact 28 (f := .free "int") rfl)
    f_isinstance := He.free_ok X G (c.t.d.fact 29 (f := .free "isinstance") rfl)
    f_len := He.free_ok X G (c.t.d.fact 30 (f := .free "len") rfl)
    f_list := He.free_ok X G (c.t.d.fact 31 (f := .free "list") rfl)
    f_min := He.free_ok X G (c.t.d.fact 32 (f := .free "min") rfl)
    f_range := He.free_ok X G (c.t.d.fact 33 (f := .free "range") rfl)
    f_repr := He.free_ok X G (c.t.d.fact 34 (f := .free "repr") rfl)
    f_sorted := He.free_ok X G (c.t.d.fact 35 (f := .free "sorted") rfl)
    f_tuple := He.free_ok X G (c.t.d.fact 36 (f := .free "tuple") rfl)
    f_zip := He.free_ok X G (c.t.d.fact 37 (f := .free "zip") rfl)
    g_MOST_SIZE := He.int_ok X G (c.t.d.fact 24 (f := .int "MOST_SIZE" 5) rfl)
    sub := fun x y b e => of_decide_eq_true (List.all_eq_true.mp (ex_at c.more 1 rfl) ((x, y), b) (look_mem e))
    c_BadNumber := He.glo_ok X G (c.t.d.fact 22 (f := .glo "BadNumber") rfl)
    c_BadPairs := He.glo_ok X G (c.t.d.fact 23 (f := .glo "BadPairs") rfl)
    x_BadNumber := kx_BadNumber X G c
    x_BadPairs := kx_BadPairs X G c
    l_given := fun x hx => ⟨xfB_ok (List.all_eq_true.mp (ex_at c.more 2 rfl) x hx), by
      unfold xcs at hx
      simp only [List.mem_cons, List.not_mem_nil, or_false] at hx
      rcases hx with rfl | rfl
      · exact He.noat_ok (c.t.d.fact 39 (f := .noat "BadNumber" "given") rfl)
      · exact He.noat_ok (c.t.d.fact 41 (f := .noat "BadPairs" "given") rfl)
      ⟩
    m_0 := He.glo_ok X G (c.t.d.fact 0 (f := .glo "is_integer") rfl)
    d_0 := by
      obtain ⟨fd, F⟩ := c.t.d.def_ 0 (d := dAt 5 "is_integer") rfl
      exact ⟨fd, F, FunD.bindsN F fun _ _ _ _ _ _ us hl => match us, hl with | [_], _ => rfl⟩
    m_1 := He.glo_ok X G (c.t.d.fact 1 (f := .glo "is_between") rfl)
    d_1 := by
      obtain ⟨fd, F⟩ := c.t.d.def_ 1 (d := dAt 6 "is_between") rfl
      exact ⟨fd, F, FunD.bindsN F fun _ _ _ _ _ _ us hl => match us, hl with | [_, _, _], _ => rfl⟩
    m_2 := He.glo_ok X G (c.t.d.fact 2 (f := .glo "is_pair") rfl)
    d_2 := by
      obtain ⟨fd, F⟩ := c.t.d.def_ 2 (d := dAt 9 "is_pair") rfl
      exact ⟨fd, F, FunD.bindsN F fun _ _ _ _ _ _ us hl => match us, hl with | [_, _], _ => rfl⟩
    m_3 := He.glo_ok X G (c.t.d.fact 3 (f := .glo "are_pairs") rfl)
    d_3 := by
      obtain ⟨fd, F⟩ := c.t.d.def_ 3 (d := dAt 10 "are_pairs") rfl
      exact ⟨fd, F, FunD.bindsN F fun _ _ _ _ _ _ us hl => match us, hl with | [_, _], _ => rfl⟩
    m_4 := He.glo_ok X G (c.t.d.fact 4 (f := .glo "rows_along") rfl)
    d_4 := by
      obtain ⟨fd, F⟩ := c.t.d.def_ 4 (d := dAt 11 "rows_along") rfl
      exact ⟨fd, F, FunD.bindsN F fun _ _ _ _ _ _ us hl => match us, hl with | [_, _, _], _ => rfl⟩
    m_5 := He.glo_ok X G (c.t.d.fact 5 (f := .glo "common_pairs") rfl)
    d_5 := by
      obtain ⟨fd, F⟩ := c.t.d.def_ 5 (d := dAt 12 "common_pairs") rfl
      exact ⟨fd, F, FunD.bindsN F fun _ _ _ _ _ _ us hl => match us, hl with | [_, _], _ => rfl⟩
    m_6 := He.glo_ok X G (c.t.d.fact 6 (f := .glo "two_rows") rfl)
    d_6 := by
      obtain ⟨fd, F⟩ := c.t.d.def_ 6 (d := dAt 13 "two_rows") rfl
      exact ⟨fd, F, FunD.bindsN F fun _ _ _ _ _ _ us hl => match us, hl with | [_, _], _ => rfl⟩
    m_7 := He.glo_ok X G (c.t.d.fact 7 (f := .glo "told_back") rfl)
    d_7 := by
      obtain ⟨fd, F⟩ := c.t.d.def_ 7 (d := dAt 14 "told_back") rfl
      exact ⟨fd, F, FunD.bindsN F fun _ _ _ _ _ _ us hl => match us, hl with | [_, _], _ => rfl⟩
    m_8 := He.glo_ok X G (c.t.d.fact 8 (f := .glo "_law_mixed") rfl)
    d_8 := by
      obtain ⟨fd, F⟩ := c.t.d.def_ 8 (d := dAt 16 "_law_mixed") rfl
      exact ⟨fd, F, FunD.bindsN F fun _ _ _ _ _ _ us hl => match us, hl with | [_, _], _ => rfl⟩
    m_9 := He.glo_ok X G (c.t.d.fact 9 (f := .glo "_law_begin") rfl)
    d_9 := by
      obtain ⟨fd, F⟩ := c.t.d.def_ 9 (d := dAt 17 "_law_begin") rfl
      exact ⟨fd, F, FunD.bindsN F fun _ _ _ _ _ _ us hl => match us, hl with | [_], _ => rfl⟩
    m_10 := He.glo_ok X G (c.t.d.fact 10 (f := .glo "_law_draw") rfl)
    d_10 := by
      obtain ⟨fd, F⟩ := c.t.d.def_ 10 (d := dAt 18 "_law_draw") rfl
      exact ⟨fd, F, FunD.bindsN F fun _ _ _ _ _ _ us hl => match us, hl with | [_, _], _ => rfl⟩
    m_11 := He.glo_ok X G (c.t.d.fact 11 (f := .glo "_law_in") rfl)
    d_11 := by
      obtain ⟨fd, F⟩ := c.t.d.def_ 11 (d := dAt 19 "_law_in") rfl
      exact ⟨fd, F, FunD.bindsN F fun _ _ _ _ _ _ us hl => match us, hl with | [_, _], _ => rfl⟩
    m_12 := He.glo_ok X G (c.t.d.fact 12 (f := .glo "_law_out") rfl)
    d_12 := by
      obtain ⟨fd, F⟩ := c.t.d.def_ 12 (d := dAt 20 "_law_out") rfl
      exact ⟨fd, F, FunD.bindsN F fun _ _ _ _ _ _ us hl => match us, hl with | [_, _], _ => rfl⟩
    m_13 := He.glo_ok X G (c.t.d.fact 13 (f := .glo "_law_turned") rfl)
    d_13 := by
      obtain ⟨fd, F⟩ := c.t.d.def_ 13 (d := dAt 21 "_law_turned") rfl
      exact ⟨fd, F, FunD.bindsN F fun _ _ _ _ _ _ us hl => match us, hl with | [_, _], _ => rfl⟩
    m_14 := He.glo_ok X G (c.t.d.fact 14 (f := .glo "_law_early") rfl)
    d_14 := by
      obtain ⟨fd, F⟩ := c.t.d.def_ 14 (d := dAt 22 "_law_early") rfl
      exact ⟨fd, F, FunD.bindsN F fun _ _ _ _ _ _ us hl => match us, hl with | [_], _ => rfl⟩
    m_15 := He.glo_ok X G (c.t.d.fact 15 (f := .glo "_law_heard") rfl)
    d_15 := by
      obtain ⟨fd, F⟩ := c.t.d.def_ 15 (d := dAt 23 "_law_heard") rfl
      exact ⟨fd, F, FunD.bindsN F fun _ _ _ _ _ _ us hl => match us, hl with | [_], _ => rfl⟩
    m_16 := He.glo_ok X G (c.t.d.fact 16 (f := .glo "_law_pairs") rfl)
    d_16 := by
      obtain ⟨fd, F⟩ := c.t.d.def_ 16 (d := dAt 24 "_law_pairs") rfl
      exact ⟨fd, F, FunD.bindsN F fun _ _ _ _ _ _ us hl => match us, hl with | [_, _], _ => rfl⟩
    m_17 := He.glo_ok X G (c.t.d.fact 17 (f := .glo "_law_are_pairs") rfl)
    d_17 := by
      obtain ⟨fd, F⟩ := c.t.d.def_ 17 (d := dAt 25 "_law_are_pairs") rfl
      exact ⟨fd, F, FunD.bindsN F fun _ _ _ _ _ _ us hl => match us, hl with | [_, _], _ => rfl⟩
    m_18 := He.glo_ok X G (c.t.d.fact 18 (f := .glo "_law_back_right") rfl)
    d_18 := by
      obtain ⟨fd, F⟩ := c.t.d.def_ 18 (d := dAt 26 "_law_back_right") rfl
      exact ⟨fd, F, FunD.bindsN F fun _ _ _ _ _ _ us hl => match us, hl with | [_], _ => rfl⟩
    kt_18 := knt_of (ex_at c.more 0 rfl) hB (by decide)
    m_19 := He.glo_ok X G (c.t.d.fact 19 (f := .glo "_law_back_is") rfl)
    d_19 := by
      obtain ⟨fd, F⟩ := c.t.d.def_ 19 (d := dAt 27 "_law_back_is") rfl
      exact ⟨fd, F, FunD.bindsN F fun _ _ _ _ _ _ us hl => match us, hl with | [_, _, _], _ => rfl⟩
    m_20 := He.glo_ok X G (c.t.d.fact 20 (f := .glo "law") rfl)
    d_20 := by
      obtain ⟨fd, F⟩ := c.t.d.def_ 20 (d := dAt 28 "law") rfl
      exact ⟨fd, F, FunD.bindsN F fun _ _ _ _ _ _ us hl => match us, hl with | [_], _ => rfl⟩
    kt_20 := knt_of (ex_at c.more 0 rfl) hB (by decide)
  }
/-- the law, from what its denotation answers -/
theorem law_end (hc : ∀ ns : List Int, ns.length ≤ 63 → (∀ z ∈ ns, Builtin.Int.intBits z ≤ 1048576) → ∃ S, callZ bs 16 20 [.scr ns] ⟨[], 0⟩ = .ok (.bl true) S) {w : World} {K : PySem.W.Frag} {mg : Str → Option Value} {h : Heap} (X : K.In h) (G : h.Ns mainGlobals mg) (c : He.SaysX fa fn ts tf ex w h K) :
    LawG PySem.Challenge.rw_fewqueues_k39_whole_told_back w K (5 * 16) 63 "_law_script" mg (He.ga K "law") h := by
  obtain ⟨fd, F⟩ := c.t.d.def_ 20 (d := dAt 28 "law") rfl
  have b := FunD.bindsA (ps := ["_law_script"]) F fun _ _ _ _ _ _ us hl => match us, hl with | [_], _ => rfl
  refine lawAt_of X c.hd c.out c.empty (fun s v => b s [v] rfl) hc fun bs' KX' G' hB => ?_
  letI : HasT := ⟨lamT tf K⟩
  have T : Tx (PySem.Challenge.rw_fewqueues_k39_whole_told_back).prog w K mg bs' := tx_of X G c hB
  exact fn_zC (N := N_20) (k := 5 * 15 + 4) F sc_20 rfl (fun cdv hcd A outer s H E hr => q_20 T (kn_all T 15) hcd hr)
end L2.Z.Lw
section
open PySem PySem.W PySem.Calls PyProof.Rows
theorem L2.Z.Lw.holds_of (hc : ∀ ns : List Int, ns.length ≤ 63 → (∀ z ∈ ns, Builtin.Int.intBits z ≤ 1048576) → ∃ S, L2.Z.callZ L2.Z.Lw.bs 16 20 [.scr ns] ⟨[], 0⟩ = .ok (.bl true) S) : PySem.Challenge.rw_fewqueues_k39_whole_told_back.Holds := by
  w_on; o_law
  refine HandSHeadRun.head_any (r := OpenLaw.row PySem.Challenge.rw_fewqueues_k39_whole_told_back) (q := view (OpenLaw.row PySem.Challenge.rw_fewqueues_k39_whole_told_back).prog [28]) (H := L2.Z.Lw.hk) (ob := L2.Z.Lw.ob) (M := 3000) (loose := L2.Z.Lw.lo) (d := HandSHeadRun.topDef (OpenLaw.row PySem.Challenge.rw_fewqueues_k39_whole_told_back).prog 28) (kwd := []) L2.Z.Lw.ob_eq
    (by kernel_rfl) (fun s => by kernel_rfl) L2.Z.Lw.run (by kernel_rfl) (by kernel_rfl) (by kernel_rfl) (by rfl) (by first | assumption | decide +kernel) (by decide +kernel) ⟨rfl, rfl, rfl, rfl, rfl, by decide +kernel⟩ ?hw ?hc
  case hw => w_witness2
  case hc =>
    refine L2.Z.walkG (l := PySem.Challenge.rw_fewqueues_k39_whole_told_back) (n := 63) (k := 5 * 16) (x := "_law_script") rfl (by decide) (by kernel_rfl) ⟨⟨rfl, by decide, by decide⟩, rfl⟩ ?F (fun _ _ _ _ _ z => L2.Z.cx_false z)
    intro w mg fa h Y G hmg0
    obtain ⟨K, KX, c⟩ := Y
    have hmg : mg ("law" : PySem.Str) = some (.ref fa) := by
      have e : (HandSHeadRun.topDef (OpenLaw.row PySem.Challenge.rw_fewqueues_k39_whole_told_back).prog 28).name = ("law" : PySem.Str) := by kernel_rfl
      rw [← e]
      exact hmg0
    have e := hmg.symm.trans (He.glo_ok KX G (c.t.d.fact 20 (f := .glo "law") rfl))
    cases e
    exact ⟨K, KX, L2.Z.Lw.law_end hc KX G c⟩
end

set_option Elab.async false
set_option linter.all false
set_option maxRecDepth 100000
set_option maxHeartbeats 4000000
/-! PA0: histories as data. -/
namespace L2.Z.Lw
open PySem PySem.Spec PyProof.Rows
abbrev Cal := Int × Int
abbrev Thg := Cal × Option Cal
abbrev Hst := List Thg × List Cal
def dCall (c : Cal) : D := .tup [.int c.1, .int c.2]
def dOpt : Option Cal → D
  | none => .non
  | some c => dCall c
def dThing (t : Thg) : D := .tup [dCall t.1, dOpt t.2]
def dHist (h : Hst) : D := .tup [.tup (h.1.map dThing), .tup (h.2.map dCall)]
def dInts (l : List Int) : D := .tup (l.map .int)
def inT (i : Int) : Bool := decide (-1000000000 ≤ i) && decide (i ≤ 1000000000)
def okC (c : Cal) : Bool := inT c.1 && inT c.2 && decide (c.1 ≤ c.2)
def okO : Option Cal → Bool
  | none => true
  | some c => okC c
def okTh (t : Thg) : Bool := okC t.1 && okO t.2
structure OkH (h : Hst) : Prop where
  n : h.1.length ≤ 12
  e : h.2.length ≤ 8
  t : ∀ t ∈ h.1, okTh t = true
  c : ∀ c ∈ h.2, okC c = true
theorem szl {n : Nat} (h : n ≤ 10000000) : n ≤ sizeLine := Nat.le_trans h (by decide)
def inA (t u : Thg) : Bool := decide (t.1.2 < u.1.1)
def outA (t u : Thg) : Bool := match t.2 with
  | none => false
  | some c => match u.2 with
    | none => true
    | some d => decide (c.2 < d.1)
def trn (t u : Thg) : Bool := inA t u && outA u t
def erl (t : Thg) : Bool := match t.2 with
  | none => false
  | some c => decide (c.2 < t.1.1)
def dI (i : Nat) : D := .int (0 + (i : Nat))
def dNP (p : Nat × Nat) : D := .tup [.int (0 + (p.1 : Nat)), .int (0 + (p.2 : Nat))]
end L2.Z.Lw

set_option Elab.async false
set_option linter.all false
set_option maxRecDepth 100000
set_option maxHeartbeats 4000000
/-! PD: what is drawn. -/
namespace L2.Z.Lw
open PySem PySem.Spec PyProof.Rows
local macro_rules | `(tactic| walk_at "z1") => `(tactic| (first
  | ((with_reducible refine z_var ?_); refine ⟨_, rfl, ?_⟩)
  | with_reducible refine w_C ?_
  | with_reducible refine w_cons ?_
  | with_reducible refine w_nil ?_
  | with_reducible refine w_call ?_
  | with_reducible refine w_e2 ?_
  | with_reducible refine w_e1 ?_
  | with_reducible refine w_cb ?_
  | ((with_reducible refine z_mod ?_ ?_); (first | omega | (simp only [List.length_map, List.length_append, List.length_range]; omega)))
  | ((with_reducible refine z_div ?_ ?_ ?_); (omega); (omega))
  | ((with_reducible refine z_mul ?_ ?_); (first | (left; omega) | (right; omega)))
  | ((with_reducible refine z_pow ?_ ?_); (decide))
  | with_reducible refine z_fld (by kernel_rfl) (by kernel_rfl) ?_
  | ((with_reducible refine z_wo ?_); refine ⟨_, _, rfl, ?_⟩)
  | with_reducible refine w_tV ?_
  | ((with_reducible refine z_itR ?_ ?_); (first | omega | (simp only [List.length_map, List.length_append, List.length_range]; omega)))
  | ((with_reducible refine z_itR2 ?_ ?_); (omega))
  | ((with_reducible refine z_wt ?_); refine ⟨_, rfl, ?_⟩)
  | with_reducible refine ws_seq ?_
  | ((with_reducible refine sq_nx ?_); try simp only [List.set_cons_zero, List.set_cons_succ])
  | with_reducible refine sq_rt ?_
  | with_reducible refine sq_xc ?_
  | with_reducible refine fz_rt ?_
  | with_reducible refine fz_nx ?_
  | with_reducible refine fz_xc ?_
  | ((with_reducible refine lp_nx ?_); try simp only [List.set_cons_zero, List.set_cons_succ])
  | with_reducible refine lp_rt ?_
  | with_reducible refine lp_xc ?_
  | with_reducible refine lp_bk ?_
  | with_reducible refine lp_ct ?_
  | with_reducible refine ws_if ?_
  | with_reducible refine ws_set ?_
  | with_reducible refine ws_ret ?_
  | with_reducible refine ws_retN ?_
  | with_reducible refine ws_nil ?_
  | with_reducible refine ws_drop ?_
  | with_reducible refine w_tN ?_
  | with_reducible refine w_tA ?_
  | with_reducible refine w_tO ?_
  | with_reducible refine w_tY ?_
  | with_reducible refine wQ_t rfl ?_
  | with_reducible refine wQ_f rfl ?_
  | with_reducible refine wB_t rfl ?_
  | with_reducible refine wB_f rfl ?_
  | with_reducible refine w_tup ?_
  | with_reducible refine w_lst ?_
  | ((with_reducible refine z_wz ?_ ?_); (exact rfl))
  | with_reducible refine w_and ?_
  | with_reducible refine w_or ?_
  | with_reducible refine w_not ?_
  | with_reducible refine w_if ?_
  | with_reducible refine w_chain ?_
  | with_reducible refine ws_un ?_
  | with_reducible refine ws_par ?_
  | with_reducible refine ws_par3 ?_
  | with_reducible refine ws_sub ?_
  | with_reducible refine ws_raise ?_
  | with_reducible refine ws_for ?_
  | with_reducible refine w_lc ?_
  | with_reducible refine w_isq ?_
  | with_reducible refine w_irng1 ?_
  | with_reducible refine w_irng2 ?_
  | with_reducible refine w_ienm ?_
  | with_reducible refine w_ienmK ?_
  | with_reducible refine w_izp ?_
  | with_reducible refine w_sl ?_
  | with_reducible refine w_oN ?_
  | with_reducible refine w_oS ?_
  | with_reducible refine w_m ?_
  | ((with_reducible refine w_lam ?_); try simp only [List.replicate_succ, List.replicate_zero, Nat.reduceSub])
  | ((with_reducible refine sj_nx ?_); try simp only [List.set_cons_zero, List.set_cons_succ])
  | with_reducible refine sj_rt ?_
  | with_reducible refine sj_xc ?_
  | with_reducible refine sj_bk ?_
  | with_reducible refine sj_ct ?_
  | with_reducible refine ws_try ?_
  | with_reducible refine tr_nx ?_
  | with_reducible refine tr_rt ?_
  | with_reducible refine tr_xc ?_
  | with_reducible refine w_dict ?_
  | with_reducible refine w_pcons ?_
  | with_reducible refine w_pnil ?_
  | with_reducible refine rh_nx ?_
  | with_reducible refine rh_rt ?_
  | fail "z"))
local macro_rules | `(tactic| walk_at "z") => `(tactic| ((repeat' (walk_at "z1")); try dsimp only))
local macro_rules | `(tactic| walk_at "zF") => `(tactic| (refine wQ_f (by simp only [decide_eq_false_iff_not, decide_eq_true_eq, List.length_map, List.length_append, Int.not_lt, Bool.not_eq_eq_eq_not, Bool.not_true, Bool.not_false]; omega) ?_; walk_at "z"))
local macro_rules | `(tactic| walk_at "zT") => `(tactic| (refine wQ_t (by simp only [decide_eq_false_iff_not, decide_eq_true_eq, List.length_map, List.length_append, Int.not_lt, Bool.not_eq_eq_eq_not, Bool.not_true, Bool.not_false]; omega) ?_; walk_at "z"))
local macro_rules | `(tactic| walk_at "z0") => `(tactic| simp only [List.map_cons, List.map_nil, List.replicate_succ, List.replicate_zero, List.cons_append, List.nil_append, Nat.reduceSub, Nat.sub_self])
local macro_rules | `(tactic| walk_at "zc") => `(tactic| (walk_at "z0"; walk_at "z"))
/-- where the drawing's state lies: its dict, its cells, what is left of them -/
structure Ds where
  st : Nat
  c : Nat
  l : Nat
def kvState (z : Ds) (at_ : Int) : List (Key × D) := [(Sum.inr "cells", .loc z.c), (Sum.inr "lefts", .loc z.l), (Sum.inr "at", .int at_), (Sum.inr "room", .int 0)]
def dState (z : Ds) (at_ : Int) : O := .dK (kvState z at_)
theorem put_at (z : Ds) (a b : Int) : putD (kvState z a) (Sum.inr "at") (.int b) = kvState z b := by kernel_rfl
structure StA (z : Ds) (cells lefts : List Int) (at_ : Int) (S : Sto) : Prop where
  d : S.get z.st = some (dState z at_)
  c : S.get z.c = some (.lst (cells.map .int))
  l : S.get z.l = some (.lst (lefts.map .int))
  n1 : z.st ≠ z.c
  n2 : z.st ≠ z.l
  n3 : z.c ≠ z.l
  len : lefts.length = cells.length
  pos : 0 < cells.length
  at0 : 0 ≤ at_
/-- after at most a draws -/
def Dw (z : Ds) (a : Int) (S : Sto) : Prop := ∃ cells lefts at_, StA z cells lefts at_ S ∧ at_ ≤ a
abbrev Gd (z : Ds) := Gx [z.st, z.l]
theorem Dw.mono {z : Ds} {a b : Int} {S : Sto} (h : Dw z a S) (q : a ≤ b) : Dw z b S := by
  obtain ⟨c, l, t, s, e⟩ := h
  exact ⟨c, l, t, s, Int.le_trans e q⟩
theorem StA.keep {z : Ds} {c l : List Int} {t : Int} {S S' : Sto} (h : StA z c l t S) (g : Gr S S') : StA z c l t S' := ⟨g.get h.d, g.get h.c, g.get h.l, h.n1, h.n2, h.n3, h.len, h.pos, h.at0⟩
theorem Dw.keep {z : Ds} {a : Int} {S S' : Sto} (h : Dw z a S) (g : Gr S S') : Dw z a S' := by
  obtain ⟨c, l, t, s, e⟩ := h
  exact ⟨c, l, t, s.keep g, e⟩
theorem Dw.lt {z : Ds} {a : Int} {S : Sto} (h : Dw z a S) : z.st < S.n ∧ z.c < S.n ∧ z.l < S.n := by
  obtain ⟨c, l, t, s, e⟩ := h
  exact ⟨Sto.lt_of s.d, Sto.lt_of s.c, Sto.lt_of s.l⟩
theorem Dw.push {z : Ds} {a : Int} {S : Sto} (h : Dw z a S) (o : O) : Dw z a (S.push o) := h.keep ((Gx.refl _ _).push o)
theorem StA.set {z : Ds} {c l : List Int} {t : Int} {S : Sto} {i : Nat} {o : O} (h : StA z c l t S) (h1 : i ≠ z.st) (h2 : i ≠ z.c) (h3 : i ≠ z.l) (hi : i < S.n) : StA z c l t (S.set i o) :=
  ⟨(Sto.get_set_ne (Ne.symm h1) hi).trans h.d, (Sto.get_set_ne (Ne.symm h2) hi).trans h.c, (Sto.get_set_ne (Ne.symm h3) hi).trans h.l, h.n1, h.n2, h.n3, h.len, h.pos, h.at0⟩
theorem Dw.set {z : Ds} {a : Int} {S : Sto} {i : Nat} {o : O} (h : Dw z a S) (h1 : i ≠ z.st) (h2 : i ≠ z.c) (h3 : i ≠ z.l) (hi : i < S.n) : Dw z a (S.set i o) := by
  obtain ⟨c, l, t, s, e⟩ := h
  exact ⟨c, l, t, s.set h1 h2 h3 hi, e⟩
section
variable {k : Nat} {S : Sto} {z : Ds} {a : Int}
theorem s_mixed {x t : Int} (h0 : 0 ≤ t) (h1 : t < 2 ^ 61) : wp (callZ bs (k + 1) i__law_mixed [.int x, .int t]) S (fun d S' => ∃ v, d = .int v ∧ 0 ≤ v ∧ v < 2147483629 ∧ S' = S) noX := by
  refine call_go (b := b__law_mixed) rfl rfl rfl ?_
  unfold b__law_mixed
  walk_at "zc"
  exact ⟨_, rfl, by omega, by omega, rfl⟩
theorem s_draw {many : Int} (h : Dw z a S) (ha : a < 2 ^ 60) (h1 : 0 < many) (h2 : many < 1073741824) : wp (callZ bs (k + 2) i__law_draw [.loc z.st, .int many]) S (fun d S' => ∃ v, d = .int v ∧ 0 ≤ v ∧ v < many ∧ Dw z (a + 1) S' ∧ Gd z S S') noX := by
  obtain ⟨cells, lefts, at_, s, hat⟩ := h
  refine call_go (b := b__law_draw) rfl rfl rfl ?_
  unfold b__law_draw
  walk_at "zc"
  refine z_ixK s.d (d := .int at_) rfl ?_
  walk_at "z"
  refine z_putK s.d (Nat.le_of_ble_eq_true rfl) ?_
  rw [put_at]
  have s1 : StA z cells lefts (at_ + 1) (S.set z.st (dState z (at_ + 1))) := by
    have hl := Sto.lt_of s.d
    exact ⟨Sto.get_set s.d, (Sto.get_set_ne (Ne.symm s.n1) hl).trans s.c, (Sto.get_set_ne (Ne.symm s.n2) hl).trans s.l, s.n1, s.n2, s.n3, s.len, s.pos, by have := s.at0; omega⟩
  have g1 : Gd z S (S.set z.st (dState z (at_ + 1))) := (Gx.refl _ _).set (.inl (by simp)) (Sto.lt_of s.d) _
  have h0 := s.at0
  have hp := s.pos
  change sq _ _ _ _ (S.set z.st (dState z (at_ + 1)))
  generalize S.set z.st (dState z (at_ + 1)) = S1 at s1 g1 ⊢
  walk_at "z"
  refine z_ixK s1.d (d := .loc z.c) rfl ?_
  walk_at "z"
  refine z_lenL s1.c ?_
  walk_at "z"
  refine z_ixK s1.d (d := .loc z.l) rfl ?_
  walk_at "z"
  rw [List.length_map]
  obtain ⟨j, hj⟩ : ∃ j : Nat, at_ % (cells.length : Int) = j := ⟨(at_ % (cells.length : Int)).toNat, by
    have := Int.emod_nonneg at_ (b := (cells.length : Int)) (by omega)
    omega⟩
  have hjl : j < cells.length := by
    have := Int.emod_lt_of_pos at_ (b := (cells.length : Int)) (by omega)
    omega
  rw [hj]
  have hjl2 : j < lefts.length := by rw [s.len]; exact hjl
  refine z_ixL s1.l (d := .int lefts[j]) (by rw [atD_nat, List.getElem?_map, List.getElem?_eq_getElem hjl2]; rfl) ?_
  walk_at "z"
  refine wQ_c (fun q => ?_) (fun q => ?_)
  · simp only [decide_eq_true_eq] at q
    walk_at "z"
    refine z_ixK s1.d (d := .loc z.l) rfl ?_
    walk_at "z"
    refine z_putL s1.l (j := j) (ixN_nat (by rw [List.length_map]; exact hjl2)) ?_
    walk_at "z"
    have hl := Sto.lt_of s1.l
    refine ⟨_, rfl, Int.emod_nonneg _ (by omega), Int.emod_lt_of_pos _ h1, ⟨cells, lefts.set j (lefts[j] / many), at_ + 1, ?_, by omega⟩, g1.set (.inl (by simp)) hl _⟩
    exact ⟨(Sto.get_set_ne s.n2 hl).trans s1.d, (Sto.get_set_ne s.n3 hl).trans s1.c, by rw [Sto.get_set s1.l, List.map_set], s.n1, s.n2, s.n3, by rw [List.length_set]; exact s.len, s.pos, by omega⟩
  · walk_at "z"
    refine z_ixK s1.d (d := .loc z.c) rfl ?_
    walk_at "z"
    refine z_ixL s1.c (d := .int cells[j]) (by rw [atD_nat, List.getElem?_map, List.getElem?_eq_getElem hjl]; rfl) ?_
    walk_at "z"
    refine (s_mixed h0 (by omega)).use ?_
    rintro d S2 ⟨v, rfl, hv0, hv1, rfl⟩
    walk_at "z"
    refine (s_mixed (by omega) (by omega)).use ?_
    rintro d S2 ⟨u, rfl, hu0, hu1, rfl⟩
    walk_at "z"
    refine (s_mixed (by omega) (by omega)).use ?_
    rintro d S2 ⟨w, rfl, hw0, hw1, rfl⟩
    walk_at "z"
    exact ⟨_, rfl, Int.emod_nonneg _ (by omega), Int.emod_lt_of_pos _ h1, ⟨cells, lefts, at_ + 1, s1, by omega⟩, g1⟩
theorem mrg (z : Ds) : mergeD [] [(Sum.inr "cells", .loc z.c), (Sum.inr "lefts", .loc z.l), (Sum.inr "at", .int 0), (Sum.inr "room", .int 0)] = kvState z 0 := by kernel_rfl
theorem s_begin {ns : List Int} (hn : ns.length ≤ 63) : wp (callZ bs (k + 1) i__law_begin [.scr ns]) S (fun d S' => ∃ z : Ds, d = .loc z.st ∧ Dw z 0 S' ∧ Gr S S' ∧ S.n ≤ z.c ∧ S.n ≤ z.l ∧ S.n ≤ z.st) noX := by
  refine call_go (b := b__law_begin) rfl rfl rfl ?_
  unfold b__law_begin
  walk_at "z0"
  refine ws_cut (fun σ S1 => ∃ (cells : List Int) (n : Nat), σ = [some (.scr ns), some (.loc n), none] ∧ Gr S S1 ∧ S.n ≤ n ∧ S1.get n = some (.lst (cells.map .int)) ∧ 0 < cells.length ∧ cells.length ≤ 63) ?_ ?_
  · walk_at "z"
    refine z_ne (p := .list (ns.map .int)) (r := .list []) rfl (pd_loc (Sto.get_push _ _) rfl) ?_
    walk_at "z"
    refine wQ_c (fun q => ?_) (fun q => ?_)
    · walk_at "z"
      refine ⟨ns, _, rfl, ((Gx.refl _ _).push _).push _, by simp, Sto.get_push _ _, ?_, hn⟩
      cases ns with
      | nil => cases q
      | cons a r => simp
    · walk_at "z"
      exact ⟨[0], _, rfl, ((Gx.refl _ _).push _).push _, by simp, Sto.get_push _ _, by decide, by decide⟩
  rintro σ S1 ⟨cells, n, rfl, gr, hn, g, hp, hl⟩
  walk_at "z"
  have g1 : (S1.push (.dK [])).get n = some (.lst (cells.map .int)) := (Sto.get_push_lt (Sto.lt_of g)).trans g
  refine z_itL g1 ?_
  refine lc_L1 g1 (fun c => .int (if 10 ^ 18 ≤ c then c else 0)) (szl (by omega)) (fun c hc S2 gr2 => ?_) (fun S2 gr2 hn2 g2 => ?_)
  · walk_at "z"
    refine wQ_c (fun q => ?_) (fun q => ?_)
    · simp only [decide_eq_true_eq] at q
      walk_at "z"
      exact ⟨by rw [if_pos (by exact q)], Gx.refl _ _⟩
    · simp only [decide_eq_false_iff_not] at q
      walk_at "z"
      exact ⟨by rw [if_neg (by exact q)], Gx.refl _ _⟩
  · walk_at "z"
    have hd : S2.get S1.n = some (.dK []) := gr2.get (Sto.get_push _ _)
    refine ⟨hd, Nat.le_of_ble_eq_true rfl, ?_⟩
    refine ⟨⟨S1.n, n, (S1.push (.dK [])).n⟩, rfl, ⟨cells, cells.map fun c => if 10 ^ 18 ≤ c then c else 0, 0, ?_, by omega⟩, ?_, hn, by have := gr.le; simp; omega, gr.le⟩
    · have hlt := Sto.lt_of hd
      have hnl := Sto.lt_of g
      refine ⟨?_, ?_, ?_, by show S1.n ≠ n; omega, by show S1.n ≠ S1.n + 1; omega, by show n ≠ S1.n + 1; omega, by simp, hp, by omega⟩
      · rw [Sto.get_set hd]; exact congrArg (fun l => some (O.dK l)) (mrg ⟨S1.n, n, (S1.push (.dK [])).n⟩)
      · exact (Sto.get_set_ne (by show n ≠ S1.n; omega) hlt).trans (gr2.get g1)
      · refine (Sto.get_set_ne (by show S1.n + 1 ≠ S1.n; omega) hlt).trans (g2.trans ?_)
        rw [List.map_map]; rfl
    · exact ((gr.push _).trans gr2).set (.inr gr.le) (Sto.lt_of hd) _
end
end L2.Z.Lw

set_option Elab.async false
set_option linter.all false
set_option maxRecDepth 100000
set_option maxHeartbeats 4000000
/-! PQ: the law's own look at two things. -/
namespace L2.Z.Lw
open PySem PySem.Spec PyProof.Rows
local macro_rules | `(tactic| walk_at "z1") => `(tactic| (first
  | ((with_reducible refine z_var ?_); refine ⟨_, rfl, ?_⟩)
  | with_reducible refine w_C ?_
  | with_reducible refine w_cons ?_
  | with_reducible refine w_nil ?_
  | with_reducible refine w_call ?_
  | with_reducible refine w_e2 ?_
  | with_reducible refine w_e1 ?_
  | with_reducible refine w_cb ?_
  | ((with_reducible refine z_mod ?_ ?_); (first | omega | (simp only [List.length_map, List.length_append, List.length_range]; omega)))
  | ((with_reducible refine z_div ?_ ?_ ?_); (omega); (omega))
  | ((with_reducible refine z_mul ?_ ?_); (first | (left; omega) | (right; omega)))
  | ((with_reducible refine z_pow ?_ ?_); (decide))
  | with_reducible refine z_fld (by kernel_rfl) (by kernel_rfl) ?_
  | with_reducible refine w_d0 ?_
  | with_reducible refine w_dc ?_
  | with_reducible refine w_star ?_
  | with_reducible refine w_irng3 ?_
  | with_reducible refine z_kget ?_
  | with_reducible refine z_revT ?_
  | with_reducible refine z_max3 ?_
  | ((with_reducible refine z_wo ?_); refine ⟨_, _, rfl, ?_⟩)
  | with_reducible refine w_tV ?_
  | ((with_reducible refine z_itR ?_ ?_); (first | omega | (simp only [List.length_map, List.length_append, List.length_range]; omega)))
  | ((with_reducible refine z_itR2 ?_ ?_); (omega))
  | ((with_reducible refine z_wt ?_); refine ⟨_, rfl, ?_⟩)
  | with_reducible refine ws_seq ?_
  | ((with_reducible refine sq_nx ?_); try simp only [List.set_cons_zero, List.set_cons_succ])
  | with_reducible refine sq_rt ?_
  | with_reducible refine sq_xc ?_
  | with_reducible refine fz_rt ?_
  | with_reducible refine fz_nx ?_
  | with_reducible refine fz_xc ?_
  | ((with_reducible refine lp_nx ?_); try simp only [List.set_cons_zero, List.set_cons_succ])
  | with_reducible refine lp_rt ?_
  | with_reducible refine lp_xc ?_
  | with_reducible refine lp_bk ?_
  | with_reducible refine lp_ct ?_
  | with_reducible refine ws_if ?_
  | with_reducible refine ws_set ?_
  | with_reducible refine ws_ret ?_
  | with_reducible refine ws_retN ?_
  | with_reducible refine ws_nil ?_
  | with_reducible refine ws_drop ?_
  | with_reducible refine w_tN ?_
  | with_reducible refine w_tA ?_
  | with_reducible refine w_tO ?_
  | with_reducible refine w_tY ?_
  | with_reducible refine wQ_t rfl ?_
  | with_reducible refine wQ_f rfl ?_
  | with_reducible refine wB_t rfl ?_
  | with_reducible refine wB_f rfl ?_
  | with_reducible refine w_tup ?_
  | with_reducible refine w_lst ?_
  | ((with_reducible refine z_wz ?_ ?_); (exact rfl))
  | with_reducible refine w_and ?_
  | with_reducible refine w_or ?_
  | with_reducible refine w_not ?_
  | with_reducible refine w_if ?_
  | with_reducible refine w_chain ?_
  | with_reducible refine ws_un ?_
  | with_reducible refine ws_par ?_
  | with_reducible refine ws_par3 ?_
  | with_reducible refine ws_sub ?_
  | with_reducible refine ws_raise ?_
  | with_reducible refine ws_for ?_
  | with_reducible refine w_lc ?_
  | with_reducible refine w_lc2 ?_
  | with_reducible refine w_isq ?_
  | with_reducible refine w_irng1 ?_
  | with_reducible refine w_irng2 ?_
  | with_reducible refine w_ienm ?_
  | with_reducible refine w_ienmK ?_
  | with_reducible refine w_izp ?_
  | with_reducible refine w_sl ?_
  | with_reducible refine w_oN ?_
  | with_reducible refine w_oS ?_
  | with_reducible refine w_m ?_
  | ((with_reducible refine w_lam ?_); try simp only [List.replicate_succ, List.replicate_zero, Nat.reduceSub])
  | ((with_reducible refine sj_nx ?_); try simp only [List.set_cons_zero, List.set_cons_succ])
  | with_reducible refine sj_rt ?_
  | with_reducible refine sj_xc ?_
  | with_reducible refine sj_bk ?_
  | with_reducible refine sj_ct ?_
  | with_reducible refine ws_try ?_
  | with_reducible refine tr_nx ?_
  | with_reducible refine tr_rt ?_
  | with_reducible refine tr_xc ?_
  | with_reducible refine w_dict ?_
  | with_reducible refine w_pcons ?_
  | with_reducible refine w_pnil ?_
  | with_reducible refine rh_nx ?_
  | with_reducible refine rh_rt ?_
  | fail "z"))
local macro_rules | `(tactic| walk_at "z") => `(tactic| ((repeat' (walk_at "z1")); try dsimp only))
local macro_rules | `(tactic| walk_at "zF") => `(tactic| (refine wQ_f (by simp only [decide_eq_false_iff_not, decide_eq_true_eq, List.length_map, List.length_append, Int.not_lt, Bool.not_eq_eq_eq_not, Bool.not_true, Bool.not_false]; omega) ?_; walk_at "z"))
local macro_rules | `(tactic| walk_at "zT") => `(tactic| (refine wQ_t (by simp only [decide_eq_false_iff_not, decide_eq_true_eq, List.length_map, List.length_append, Int.not_lt, Bool.not_eq_eq_eq_not, Bool.not_true, Bool.not_false]; omega) ?_; walk_at "z"))
local macro_rules | `(tactic| walk_at "z0") => `(tactic| simp only [List.map_cons, List.map_nil, List.replicate_succ, List.replicate_zero, List.cons_append, List.nil_append, Nat.reduceSub, Nat.sub_self])
local macro_rules | `(tactic| walk_at "zc") => `(tactic| (walk_at "z0"; walk_at "z"))
section
variable {k : Nat} {S : Sto}
theorem s_lin {t u : Thg} : wp (callZ bs (k + 1) i__law_in [dThing t, dThing u]) S (fun d S' => d = .bl (inA t u) ∧ S' = S) noX := by
  refine call_go (b := b__law_in) rfl rfl rfl ?_
  unfold b__law_in
  walk_at "zc"
  exact ⟨rfl, rfl⟩
theorem s_lout {t u : Thg} : wp (callZ bs (k + 1) i__law_out [dThing t, dThing u]) S (fun d S' => d = .bl (outA t u) ∧ S' = S) noX := by
  obtain ⟨p, o⟩ := t
  obtain ⟨q, r⟩ := u
  refine call_go (b := b__law_out) rfl rfl rfl ?_
  unfold b__law_out
  cases o with
  | none =>
    walk_at "zc"
    exact ⟨rfl, rfl⟩
  | some c =>
    cases r with
    | none =>
      walk_at "zc"
      exact ⟨rfl, rfl⟩
    | some d =>
      walk_at "zc"
      exact ⟨rfl, rfl⟩
theorem s_lturned {t u : Thg} : wp (callZ bs (k + 2) i__law_turned [dThing t, dThing u]) S (fun d S' => d = .bl (trn t u) ∧ S' = S) noX := by
  refine call_go (b := b__law_turned) rfl rfl rfl ?_
  unfold b__law_turned
  walk_at "zc"
  refine s_lin.use ?_
  rintro d S1 ⟨rfl, rfl⟩
  refine wB_c (fun h => ?_) (fun h => ?_)
  · walk_at "z"
    refine s_lout.use ?_
    rintro d S1 ⟨rfl, rfl⟩
    walk_at "z"
    exact ⟨by unfold trn; rw [h, Bool.true_and], rfl⟩
  · walk_at "z"
    exact ⟨by unfold trn; rw [h, Bool.false_and], rfl⟩
theorem s_learly {t : Thg} : wp (callZ bs (k + 1) i__law_early [dThing t]) S (fun d S' => d = .bl (erl t) ∧ S' = S) noX := by
  obtain ⟨p, o⟩ := t
  refine call_go (b := b__law_early) rfl rfl rfl ?_
  unfold b__law_early
  cases o with
  | none =>
    walk_at "zc"
    exact ⟨rfl, rfl⟩
  | some c =>
    walk_at "zc"
    exact ⟨rfl, rfl⟩
end
end L2.Z.Lw

set_option Elab.async false
set_option linter.all false
set_option maxRecDepth 100000
set_option maxHeartbeats 4000000
/-! PF: histories as data. -/
namespace L2.Z.Lw
open PySem PySem.Spec PyProof.Rows
local macro_rules | `(tactic| walk_at "z1") => `(tactic| (first
  | ((with_reducible refine z_var ?_); refine ⟨_, rfl, ?_⟩)
  | with_reducible refine w_C ?_
  | with_reducible refine w_cons ?_
  | with_reducible refine w_nil ?_
  | with_reducible refine w_call ?_
  | with_reducible refine w_e2 ?_
  | with_reducible refine w_e1 ?_
  | with_reducible refine w_cb ?_
  | ((with_reducible refine z_mod ?_ ?_); (first | omega | (simp only [List.length_map, List.length_append, List.length_range]; omega)))
  | ((with_reducible refine z_div ?_ ?_ ?_); (omega); (omega))
  | ((with_reducible refine z_mul ?_ ?_); (first | (left; omega) | (right; omega)))
  | ((with_reducible refine z_pow ?_ ?_); (decide))
  | with_reducible refine z_fld (by kernel_rfl) (by kernel_rfl) ?_
  | ((with_reducible refine z_wo ?_); refine ⟨_, _, rfl, ?_⟩)
  | with_reducible refine w_tV ?_
  | ((with_reducible refine z_itR ?_ ?_); (first | omega | (simp only [List.length_map, List.length_append, List.length_range]; omega)))
  | ((with_reducible refine z_itR2 ?_ ?_); (omega))
  | ((with_reducible refine z_wt ?_); refine ⟨_, rfl, ?_⟩)
  | with_reducible refine ws_seq ?_
  | ((with_reducible refine sq_nx ?_); try simp only [List.set_cons_zero, List.set_cons_succ])
  | with_reducible refine sq_rt ?_
  | with_reducible refine sq_xc ?_
  | with_reducible refine fz_rt ?_
  | with_reducible refine fz_nx ?_
  | with_reducible refine fz_xc ?_
  | ((with_reducible refine lp_nx ?_); try simp only [List.set_cons_zero, List.set_cons_succ])
  | with_reducible refine lp_rt ?_
  | with_reducible refine lp_xc ?_
  | with_reducible refine lp_bk ?_
  | with_reducible refine lp_ct ?_
  | with_reducible refine ws_if ?_
  | with_reducible refine ws_set ?_
  | with_reducible refine ws_ret ?_
  | with_reducible refine ws_retN ?_
  | with_reducible refine ws_nil ?_
  | with_reducible refine ws_drop ?_
  | with_reducible refine w_tN ?_
  | with_reducible refine w_tA ?_
  | with_reducible refine w_tO ?_
  | with_reducible refine w_tY ?_
  | with_reducible refine wQ_t rfl ?_
  | with_reducible refine wQ_f rfl ?_
  | with_reducible refine wB_t rfl ?_
  | with_reducible refine wB_f rfl ?_
  | with_reducible refine w_tup ?_
  | with_reducible refine w_lst ?_
  | ((with_reducible refine z_wz ?_ ?_); (exact rfl))
  | with_reducible refine w_and ?_
  | with_reducible refine w_or ?_
  | with_reducible refine w_not ?_
  | with_reducible refine w_if ?_
  | with_reducible refine w_chain ?_
  | with_reducible refine ws_un ?_
  | with_reducible refine ws_par ?_
  | with_reducible refine ws_par3 ?_
  | with_reducible refine ws_sub ?_
  | with_reducible refine ws_raise ?_
  | with_reducible refine ws_for ?_
  | with_reducible refine w_lc ?_
  | with_reducible refine w_isq ?_
  | with_reducible refine w_irng1 ?_
  | with_reducible refine w_irng2 ?_
  | with_reducible refine w_ienm ?_
  | with_reducible refine w_ienmK ?_
  | with_reducible refine w_izp ?_
  | with_reducible refine w_sl ?_
  | with_reducible refine w_oN ?_
  | with_reducible refine w_oS ?_
  | with_reducible refine w_m ?_
  | ((with_reducible refine w_lam ?_); try simp only [List.replicate_succ, List.replicate_zero, Nat.reduceSub])
  | ((with_reducible refine sj_nx ?_); try simp only [List.set_cons_zero, List.set_cons_succ])
  | with_reducible refine sj_rt ?_
  | with_reducible refine sj_xc ?_
  | with_reducible refine sj_bk ?_
  | with_reducible refine sj_ct ?_
  | with_reducible refine ws_try ?_
  | with_reducible refine tr_nx ?_
  | with_reducible refine tr_rt ?_
  | with_reducible refine tr_xc ?_
  | with_reducible refine w_dict ?_
  | with_reducible refine w_pcons ?_
  | with_reducible refine w_pnil ?_
  | with_reducible refine rh_nx ?_
  | with_reducible refine rh_rt ?_
  | fail "z"))
local macro_rules | `(tactic| walk_at "z") => `(tactic| ((repeat' (walk_at "z1")); try dsimp only))
local macro_rules | `(tactic| walk_at "zF") => `(tactic| (refine wQ_f (by simp only [decide_eq_false_iff_not, decide_eq_true_eq, List.length_map, List.length_append, Int.not_lt, Bool.not_eq_eq_eq_not, Bool.not_true, Bool.not_false]; omega) ?_; walk_at "z"))
local macro_rules | `(tactic| walk_at "zT") => `(tactic| (refine wQ_t (by simp only [decide_eq_false_iff_not, decide_eq_true_eq, List.length_map, List.length_append, Int.not_lt, Bool.not_eq_eq_eq_not, Bool.not_true, Bool.not_false]; omega) ?_; walk_at "z"))
local macro_rules | `(tactic| walk_at "z0") => `(tactic| simp only [List.map_cons, List.map_nil, List.replicate_succ, List.replicate_zero, List.cons_append, List.nil_append, Nat.reduceSub, Nat.sub_self])
local macro_rules | `(tactic| walk_at "zc") => `(tactic| (walk_at "z0"; walk_at "z"))
def pCall (c : Cal) : PyData := .tuple [.int c.1, .int c.2]
def pOpt : Option Cal → PyData
  | none => .none
  | some c => pCall c
def pThing (t : Thg) : PyData := .tuple [pCall t.1, pOpt t.2]
def pHist (h : Hst) : PyData := .tuple [.tuple (h.1.map pThing), .tuple (h.2.map pCall)]
theorem pd_call {S : Sto} {n : Nat} {c : Cal} : toPD (n + 1) S (dCall c) = some (pCall c) := by
  refine pd_tup ?_
  simp only [toPDs, pd_int]
theorem pd_opt {S : Sto} {n : Nat} {c : Option Cal} : toPD (n + 1) S (dOpt c) = some (pOpt c) := by
  cases c with
  | none => rfl
  | some c => exact pd_call
theorem pd_thing {S : Sto} {n : Nat} {t : Thg} : toPD (n + 2) S (dThing t) = some (pThing t) := by
  refine pd_tup ?_
  simp only [toPDs, pd_call, pd_opt]
theorem pd_hist {S : Sto} {n : Nat} {h : Hst} : toPD (n + 4) S (dHist h) = some (pHist h) := by
  refine pd_tup ?_
  have e1 : toPD (n + 3) S (.tup (h.1.map dThing)) = some (.tuple (h.1.map pThing)) := pd_tup (toPDs_map (fun _ => pd_thing) _)
  have e2 : toPD (n + 3) S (.tup (h.2.map dCall)) = some (.tuple (h.2.map pCall)) := pd_tup (toPDs_map (fun _ => pd_call) _)
  simp only [toPDs, e1, e2]
theorem eqvAll_map {α : Type} {g : α → PyData} (h : ∀ a, PyData.eqv (g a) (g a) = true) : ∀ as : List α, PyData.eqvAll (as.map g) (as.map g) = true
  | [] => rfl
  | a :: as => by simp only [List.map_cons, PyData.eqvAll, h a, eqvAll_map h as, Bool.and_self]
theorem eqv_call (c : Cal) : PyData.eqv (pCall c) (pCall c) = true := by simp [pCall, PyData.eqv, PyData.eqvAll]
theorem eqv_opt (c : Option Cal) : PyData.eqv (pOpt c) (pOpt c) = true := by
  cases c with
  | none => rfl
  | some c => exact eqv_call c
theorem eqv_thing (t : Thg) : PyData.eqv (pThing t) (pThing t) = true := by simp [pThing, PyData.eqv, PyData.eqvAll, eqv_call, eqv_opt]
theorem eqv_hist (h : Hst) : PyData.eqv (pHist h) (pHist h) = true := by
  simp [pHist, PyData.eqv, PyData.eqvAll, eqvAll_map eqv_thing, eqvAll_map eqv_call]
section
variable {S : Sto} {Q : D → Sto → Prop}
theorem z_neH {h : Hst} (q : Q (.bl false) S) : wo (fNe (dHist h) (dHist h) S) Q := by
  refine z_ne pd_hist pd_hist ?_
  rw [eqv_hist]; exact q
theorem z_eqH {h : Hst} (q : Q (.bl true) S) : wo (fEq (dHist h) (dHist h) S) Q := by
  refine z_eq pd_hist pd_hist ?_
  rw [eqv_hist]; exact q
end
end L2.Z.Lw

set_option Elab.async false
set_option linter.all false
set_option maxRecDepth 100000
set_option maxHeartbeats 4000000
/-! PU0: what is shown of small data. -/
namespace L2.Z.Lw
open PySem PySem.Spec PyProof.Rows
mutual
def nd : PyData → Nat
  | .list xs => nds xs + 1
  | .tuple xs => nds xs + 1
  | _ => 1
def nds : List PyData → Nat
  | [] => 0
  | x :: xs => nd x + nds xs
end
mutual
def lf (B : Nat) : PyData → Bool
  | .int i => decide (i.natAbs ≤ B)
  | .str x => PyData.strOk x && decide (x.cps.size ≤ 20) && (x.cps.toList.all fun c => decide (c < 16 ^ 8)) && PyData.strOk (PyData.shown (.str x))
  | .list xs => lfs B xs
  | .tuple xs => lfs B xs
  | .dict kvs => kvs.isEmpty
  | _ => true
def lfs (B : Nat) : List PyData → Bool
  | [] => true
  | x :: xs => lf B x && lfs B xs
end
theorem lfs_iff {B : Nat} : ∀ {ps : List PyData}, lfs B ps = true ↔ ∀ p ∈ ps, lf B p = true
  | [] => by simp [lfs]
  | p :: ps => by simp only [lfs, Bool.and_eq_true, List.forall_mem_cons, lfs_iff (ps := ps)]
theorem hd_iff : ∀ {ps : List PyData}, PyData.hasDictAll ps = false ↔ ∀ p ∈ ps, p.hasDict = false
  | [] => by simp [PyData.hasDictAll]
  | p :: ps => by simp only [PyData.hasDictAll, Bool.or_eq_false_iff, List.forall_mem_cons, hd_iff (ps := ps)]
theorem dp_iff {m : Nat} : ∀ {ps : List PyData}, PyData.depthAll ps ≤ m ↔ ∀ p ∈ ps, p.depth ≤ m
  | [] => by simp [PyData.depthAll]
  | p :: ps => by simp only [PyData.depthAll, Nat.max_le, List.forall_mem_cons, dp_iff (ps := ps)]
theorem nds_app : ∀ (a b : List PyData), nds (a ++ b) = nds a + nds b
  | [], b => by simp [nds]
  | x :: a, b => by rw [List.cons_append, nds, nds, nds_app a b]; omega
theorem nds_rev : ∀ (a : List PyData), nds a.reverse = nds a
  | [] => rfl
  | x :: a => by rw [List.reverse_cons, nds_app, nds_rev a]; simp only [nds]; omega
theorem nd_pos (p : PyData) : 1 ≤ nd p := by cases p <;> simp [nd]
theorem nds_len : ∀ (ps : List PyData), ps.length ≤ nds ps
  | [] => Nat.zero_le _
  | x :: a => by have := nds_len a; have := nd_pos x; simp only [nds, List.length_cons]; omega
theorem nds_mem : ∀ {ps : List PyData} {p : PyData}, p ∈ ps → nd p ≤ nds ps
  | x :: a, p, h => by
    rcases List.mem_cons.mp h with rfl | h
    · simp only [nds]; omega
    · have := nds_mem h; simp only [nds]; omega
mutual
theorem lf_mono {B C : Nat} (h : B ≤ C) : ∀ {p : PyData}, lf B p = true → lf C p = true
  | .int i, q => by simp only [lf, decide_eq_true_eq] at q ⊢; omega
  | .str x, q => q
  | .list xs, q => by simp only [lf] at q ⊢; exact lfs_mono h q
  | .tuple xs, q => by simp only [lf] at q ⊢; exact lfs_mono h q
  | .dict kvs, q => q
  | .none, q => rfl
  | .bool _, q => rfl
theorem lfs_mono {B C : Nat} (h : B ≤ C) : ∀ {p : List PyData}, lfs B p = true → lfs C p = true
  | [], _ => rfl
  | x :: xs, q => by
    simp only [lfs, Bool.and_eq_true] at q ⊢
    exact ⟨lf_mono h q.1, lfs_mono h q.2⟩
end
/-! what is shown of these -/
theorem log2_lt (i : Int) (h : i.natAbs ≤ 10 ^ 50) : i.natAbs.log2 < 170 := by
  by_cases z : i.natAbs = 0
  · rw [z]; decide
  · rw [Nat.log2_lt z]
    refine Nat.lt_of_le_of_lt h ?_
    decide +kernel
theorem int_shown (i : Int) (h : i.natAbs ≤ 10 ^ 50) : (PyData.shown (.int i)).length ≤ 60 := by
  have h1 : i.natAbs < 10 ^ 51 := Nat.lt_of_le_of_lt h (by decide +kernel)
  have h2 := int_text_length_le10 (k := 51) (by decide) h1
  show (Str.ofString (toString i)).length ≤ 60
  rw [PySem.ofString_length]; omega
mutual
theorem lf_show : ∀ {p : PyData}, lf (10 ^ 50) p = true → p.showable = true ∧ p.leavesShort 60 = true ∧ p.weight + 1 ≤ 200 * nd p
  | .int i, q => by
    simp only [lf, decide_eq_true_eq] at q
    have hl := log2_lt i q
    refine ⟨?_, ?_, ?_⟩
    · simp only [PyData.showable, decide_eq_true_eq]; omega
    · simp only [PyData.leavesShort, decide_eq_true_eq]; exact int_shown i q
    · simp only [PyData.weight, nd]; split <;> omega
  | .str x, q => by
    simp only [lf, Bool.and_eq_true, decide_eq_true_eq] at q
    refine ⟨rfl, ?_, ?_⟩
    · simp only [PyData.leavesShort]; exact q.1.2
    · simp only [PyData.weight, nd]; omega
  | .list xs, q => by
    simp only [lf] at q
    obtain ⟨h1, h2, h3⟩ := lfs_show q
    refine ⟨by simpa only [PyData.showable] using h1, by simpa only [PyData.leavesShort] using h2, ?_⟩
    simp only [PyData.weight, nd]; omega
  | .tuple xs, q => by
    simp only [lf] at q
    obtain ⟨h1, h2, h3⟩ := lfs_show q
    refine ⟨by simpa only [PyData.showable] using h1, by simpa only [PyData.leavesShort] using h2, ?_⟩
    simp only [PyData.weight, nd]; omega
  | .dict kvs, q => by
    simp only [lf, List.isEmpty_iff] at q
    subst q
    exact ⟨rfl, rfl, by simp [PyData.weight, PyData.weightKv, nd]⟩
  | .none, q => ⟨rfl, rfl, by simp [PyData.weight, nd]⟩
  | .bool _, q => ⟨rfl, rfl, by simp [PyData.weight, nd]⟩
theorem lfs_show : ∀ {p : List PyData}, lfs (10 ^ 50) p = true → PyData.showableAll p = true ∧ PyData.leavesShortAll 60 p = true ∧ PyData.weightAll p ≤ 200 * nds p
  | [], _ => ⟨rfl, rfl, Nat.zero_le _⟩
  | x :: xs, q => by
    simp only [lfs, Bool.and_eq_true] at q
    obtain ⟨h1, h2, h3⟩ := lf_show q.1
    obtain ⟨k1, k2, k3⟩ := lfs_show q.2
    refine ⟨by simp only [PyData.showableAll, h1, k1, Bool.and_self], by simp only [PyData.leavesShortAll, h2, k2, Bool.and_self], ?_⟩
    simp only [PyData.weightAll, nds]
    omega
end
theorem shown_ok {p : PyData} (h : lf (10 ^ 50) p = true) (hn : nd p ≤ 1000) : p.showable = true ∧ p.shown.length ≤ sizeLine := by
  obtain ⟨h1, h2, h3⟩ := lf_show h
  have := PyData.shown_le 60 (by decide) p h2
  refine ⟨h1, ?_⟩
  have e : sizeLine = 16777216 := by decide
  rw [e]
  omega
/-! their texts are texts -/
theorem sO_app {a b : Str} (h1 : PyData.strOk a = true) (h2 : PyData.strOk b = true) : PyData.strOk (a ++ b) = true := by
  unfold PyData.strOk at *
  show (a.cps ++ b.cps).all _ = true
  rw [Array.all_append, h1, h2]; rfl
theorem sO_of (s : String) : PyData.strOk (Str.ofString s) = true := by
  unfold PyData.strOk
  rw [Str.ofString_eq_toList]
  simp only [List.all_toArray, List.all_map, List.all_eq_true, Function.comp, decide_eq_true_eq]
  intro c _
  have := c.valid
  have h : c.toNat = c.val.toNat := rfl
  rw [h]
  rcases this with h | h
  · have := h; omega
  · exact h.2
theorem sO_join : ∀ {ts : List Str}, (∀ t ∈ ts, PyData.strOk t = true) → PyData.strOk (Str.join ", " ts) = true
  | [], _ => by decide +kernel
  | [x], h => h x (by simp)
  | x :: y :: r, h => by
    show PyData.strOk (x ++ ", " ++ Str.join ", " (y :: r)) = true
    exact sO_app (sO_app (h x (by simp)) (sO_of _)) (sO_join fun t ht => h t (List.mem_cons_of_mem _ ht))
theorem sO_from : ∀ {ts : List Str} {k : Nat} {acc : Str}, PyData.strOk acc = true → (∀ t ∈ ts, PyData.strOk t = true) → PyData.strOk (textFrom k acc ts) = true
  | [], _, _, h, _ => h
  | t :: ts, k, acc, h, h2 => by
    unfold textFrom
    exact sO_from (sO_app (sO_app h (sO_of _)) (h2 t (by simp))) fun u hu => h2 u (List.mem_cons_of_mem _ hu)
mutual
theorem sO_shown {B : Nat} : ∀ {p : PyData}, lf B p = true → PyData.strOk p.shown = true
  | .int i, q => sO_of _
  | .str x, q => by
    simp only [lf, Bool.and_eq_true] at q
    exact q.2
  | .list xs, q => by
    simp only [lf] at q
    show PyData.strOk (listText (PyData.shownAll xs)) = true
    exact sO_app (sO_from (sO_of _) (sO_all q)) (sO_of _)
  | .tuple xs, q => by
    simp only [lf] at q
    show PyData.strOk (tupleText (PyData.shownAll xs)) = true
    exact sO_app (sO_app (sO_of _) (sO_join (sO_all q))) (sO_of _)
  | .dict kvs, q => by
    simp only [lf, List.isEmpty_iff] at q
    subst q
    decide +kernel
  | .none, q => sO_of _
  | .bool b, q => by cases b <;> exact sO_of _
theorem sO_all {B : Nat} : ∀ {ps : List PyData}, lfs B ps = true → ∀ t ∈ PyData.shownAll ps, PyData.strOk t = true
  | [], _, t, ht => by simp [PyData.shownAll] at ht
  | p :: ps, q, t, ht => by
    simp only [lfs, Bool.and_eq_true] at q
    simp only [PyData.shownAll, List.mem_cons] at ht
    rcases ht with rfl | ht
    · exact sO_shown q.1
    · exact sO_all q.2 t ht
end
end L2.Z.Lw

set_option Elab.async false
set_option linter.all false
set_option maxRecDepth 100000
set_option maxHeartbeats 4000000
/-! M39: of numbers below 6 with pairs that go on with one another there are two rows with just these pairs in common. -/
namespace L2.Z.Lw
abbrev NPs := List (Nat × Nat)
def canGo (ps : NPs) (row : List Nat) (x : Nat) : Bool := !row.contains x && ps.all fun p => !(p.2 == x) || row.contains p.1
def rowsA (n : Nat) (ps : NPs) : Nat → List Nat → List (List Nat)
  | 0, row => [row]
  | k + 1, row => (List.range n).flatMap fun x => if canGo ps row x = true then rowsA n ps k (row ++ [x]) else []
structure PoO (n : Nat) (ps : NPs) : Prop where
  lt : ∀ a b, (a, b) ∈ ps → a < n ∧ b < n
  ne : ∀ a b, (a, b) ∈ ps → a ≠ b
  tr : ∀ a b c, (a, b) ∈ ps → (b, c) ∈ ps → (a, c) ∈ ps
  nd : ps.Nodup
structure Lx (n : Nat) (ps : NPs) (row : List Nat) : Prop where
  nd : row.Nodup
  mem : ∀ x, x ∈ row ↔ x < n
  ext : ∀ a b, (a, b) ∈ ps → row.idxOf a < row.idxOf b
theorem pg_le {α : Type} [DecidableEq α] : ∀ {l r : List α}, l.Nodup → (∀ x ∈ l, x ∈ r) → l.length ≤ r.length
  | [], _, _, _ => by simp
  | a :: l, r, hn, h => by
    have ha : a ∈ r := h a (by simp)
    obtain ⟨hal, hl⟩ := List.nodup_cons.mp hn
    have := pg_le (r := r.erase a) hl fun x hx => (List.mem_erase_of_ne (by rintro rfl; exact hal hx)).mpr (h x (by simp [hx]))
    have e := List.length_erase_of_mem ha
    have p := List.length_pos_of_mem ha
    simp only [List.length_cons]
    omega
/-- as many: then all -/
theorem pg_all {α : Type} [DecidableEq α] {l r : List α} (hn : l.Nodup) (h : ∀ x ∈ l, x ∈ r) (hl : r.length ≤ l.length) : ∀ x ∈ r, x ∈ l := by
  intro x hx
  apply Classical.byContradiction
  intro hnx
  have h1 : ∀ y ∈ x :: l, y ∈ r := by
    intro y hy
    rcases List.mem_cons.mp hy with rfl | hy
    · exact hx
    · exact h y hy
  have := pg_le (List.nodup_cons.mpr ⟨hnx, hn⟩) h1
  simp only [List.length_cons] at this
  omega
theorem Lx.len {n : Nat} {ps : NPs} {row : List Nat} (h : Lx n ps row) : row.length = n := by
  have h1 := pg_le h.nd (r := List.range n) fun x hx => List.mem_range.mpr ((h.mem x).mp hx)
  have h2 := pg_le (List.nodup_range (n := n)) (r := row) fun x hx => (h.mem x).mpr (List.mem_range.mp hx)
  rw [List.length_range] at h1 h2
  omega
theorem canGo_iff {ps : NPs} {row : List Nat} {x : Nat} : canGo ps row x = true ↔ x ∉ row ∧ ∀ a, (a, x) ∈ ps → a ∈ row := by
  unfold canGo
  simp only [Bool.and_eq_true, Bool.not_eq_true', List.contains_eq_mem, decide_eq_false_iff_not, List.all_eq_true, Bool.or_eq_true, decide_eq_true_eq]
  constructor
  · rintro ⟨h1, h2⟩
    exact ⟨h1, fun a ha => by rcases h2 _ ha with h | h; simp at h; exact h⟩
  · rintro ⟨h1, h2⟩
    refine ⟨h1, fun p hp => ?_⟩
    by_cases q : p.2 = x
    · right; exact h2 _ (by rw [← q]; exact hp)
    · left; simpa using q
structure Px (n : Nat) (ps : NPs) (row : List Nat) : Prop where
  nd : row.Nodup
  lt : ∀ x ∈ row, x < n
  ext : ∀ a b, (a, b) ∈ ps → b ∈ row → a ∈ row ∧ row.idxOf a < row.idxOf b
theorem Px.snoc {n : Nat} {ps : NPs} {row : List Nat} {x : Nat} (ne : ∀ a b, (a, b) ∈ ps → a ≠ b) (h : Px n ps row) (hx : x < n) (g : canGo ps row x = true) : Px n ps (row ++ [x]) := by
  obtain ⟨g1, g2⟩ := canGo_iff.mp g
  refine ⟨?_, ?_, ?_⟩
  · rw [List.nodup_append]
    refine ⟨h.nd, by simp, ?_⟩
    intro a ha b hb
    simp at hb
    rintro rfl
    exact g1 (hb ▸ ha)
  · intro y hy
    rcases List.mem_append.mp hy with hy | hy
    · exact h.lt y hy
    · simp at hy; omega
  · intro a b hab hb
    rcases List.mem_append.mp hb with hb | hb
    · obtain ⟨h1, h2⟩ := h.ext a b hab hb
      refine ⟨List.mem_append_left _ h1, ?_⟩
      rw [List.idxOf_append, List.idxOf_append, if_pos h1, if_pos hb]
      exact h2
    · simp at hb
      subst hb
      have h1 := g2 a hab
      refine ⟨List.mem_append_left _ h1, ?_⟩
      rw [List.idxOf_append, List.idxOf_append, if_pos h1, if_neg g1]
      have := List.idxOf_lt_length_of_mem h1
      omega
theorem rows_px {n : Nat} {ps : NPs} (ne : ∀ a b, (a, b) ∈ ps → a ≠ b) : ∀ (k : Nat) (row r : List Nat), Px n ps row → r ∈ rowsA n ps k row → Px n ps r ∧ r.length = row.length + k
  | 0, row, r, h, m => by
    simp only [rowsA, List.mem_singleton] at m
    subst m
    exact ⟨h, rfl⟩
  | k + 1, row, r, h, m => by
    simp only [rowsA, List.mem_flatMap, List.mem_range] at m
    obtain ⟨x, hx, m⟩ := m
    split at m
    · rename_i g
      obtain ⟨h1, h2⟩ := rows_px ne k _ r (h.snoc ne hx g) m
      refine ⟨h1, ?_⟩
      rw [h2, List.length_append, List.length_singleton]; omega
    · cases m
theorem rows_lx {n : Nat} {ps : NPs} (P : PoO n ps) {r : List Nat} (m : r ∈ rowsA n ps n []) : Lx n ps r := by
  obtain ⟨h, hl⟩ := rows_px P.ne n [] r ⟨by simp, by simp, by simp⟩ m
  have all := pg_all h.nd (r := List.range n) (fun x hx => List.mem_range.mpr (h.lt x hx)) (by rw [List.length_range, hl]; simp)
  have mem : ∀ x, x ∈ r ↔ x < n := fun x => ⟨h.lt x, fun hx => all x (List.mem_range.mpr hx)⟩
  exact ⟨h.nd, mem, fun a b hab => (h.ext a b hab ((mem b).mpr (P.lt a b hab).2)).2⟩
theorem lx_rows {n : Nat} {ps : NPs} {r : List Nat} (h : Lx n ps r) : r ∈ rowsA n ps n [] := by
  have hl := h.len
  have main : ∀ k, k ≤ n → r ∈ rowsA n ps k (r.take (n - k)) := by
    intro k
    induction k with
    | zero => intro _; simp only [rowsA, Nat.sub_zero, List.mem_singleton]; rw [← hl, List.take_length]
    | succ k ih =>
      intro hk
      have hi : n - (k + 1) < r.length := by omega
      simp only [rowsA, List.mem_flatMap, List.mem_range]
      refine ⟨r[n - (k + 1)], (h.mem _).mp (List.getElem_mem _), ?_⟩
      have hidx : r.idxOf r[n - (k + 1)] = n - (k + 1) := h.nd.idxOf_getElem _ _
      have ht : ∀ y, y ∈ r → r.idxOf y < n - (k + 1) → y ∈ r.take (n - (k + 1)) := by
        intro y hy hlt
        have hb := List.idxOf_lt_length_of_mem hy
        rw [List.mem_take_iff_getElem]
        exact ⟨r.idxOf y, by omega, List.getElem_idxOf hb⟩
      rw [if_pos]
      · have e : r.take (n - (k + 1)) ++ [r[n - (k + 1)]] = r.take (n - k) := by
          rw [List.take_append_getElem hi]; congr 1; omega
        rw [e]
        exact ih (by omega)
      · refine canGo_iff.mpr ⟨?_, fun a ha => ?_⟩
        · intro hm
          rw [List.mem_take_iff_getElem] at hm
          obtain ⟨j, hj, e⟩ := hm
          have := h.nd.idxOf_getElem j (by omega)
          rw [e] at this
          omega
        · have h1 := h.ext _ _ ha
          rw [hidx] at h1
          refine ht a ?_ h1
          apply Classical.byContradiction
          intro hna
          have := List.idxOf_eq_length hna
          omega
  have := main n (Nat.le_refl n)
  simpa using this
/-- what both rows have in common -/
def comm (row other : List Nat) : NPs := row.zipIdx.flatMap fun p => ((row.drop (p.2 + 1)).filter fun f => decide (other.idxOf p.1 < other.idxOf f)).map fun f => (p.1, f)
theorem mem_comm {row other : List Nat} (h : row.Nodup) {a b : Nat} : (a, b) ∈ comm row other ↔ b ∈ row ∧ row.idxOf a < row.idxOf b ∧ other.idxOf a < other.idxOf b := by
  unfold comm
  simp only [List.mem_flatMap, List.mem_map, List.mem_filter, decide_eq_true_eq, Prod.mk.injEq]
  constructor
  · rintro ⟨⟨x, s⟩, hx, f, ⟨hf, hlt⟩, rfl, rfl⟩
    have hx' := List.mk_mem_zipIdx_iff_getElem?.mp hx
    obtain ⟨hs, ex⟩ := List.getElem?_eq_some_iff.mp hx'
    obtain ⟨j, hj, ej⟩ := List.mem_iff_getElem.mp hf
    rw [List.getElem_drop] at ej
    rw [List.length_drop] at hj
    have i1 := h.idxOf_getElem s hs
    have i2 := h.idxOf_getElem (s + 1 + j) (by omega)
    rw [ex] at i1
    rw [ej] at i2
    refine ⟨List.mem_of_mem_drop hf, by simp only at *; omega, hlt⟩
  · rintro ⟨hb, h1, h2⟩
    have hbl := List.idxOf_lt_length_of_mem hb
    have hal : row.idxOf a < row.length := by omega
    refine ⟨(a, row.idxOf a), ?_, b, ⟨?_, h2⟩, rfl, rfl⟩
    · refine List.mk_mem_zipIdx_iff_getElem?.mpr ?_
      rw [List.getElem?_eq_getElem hal, List.getElem_idxOf hal]
    · rw [List.mem_iff_getElem]
      refine ⟨row.idxOf b - (row.idxOf a + 1), by rw [List.length_drop]; omega, ?_⟩
      rw [List.getElem_drop]
      have : row.idxOf a + 1 + (row.idxOf b - (row.idxOf a + 1)) = row.idxOf b := by omega
      simp only [this]
      exact List.getElem_idxOf hbl
theorem nd_flat {α β : Type} {f : α → List β} : ∀ {l : List α}, l.Nodup → (∀ a ∈ l, (f a).Nodup) → (∀ a ∈ l, ∀ b ∈ l, ∀ x, x ∈ f a → x ∈ f b → a = b) → (l.flatMap f).Nodup
  | [], _, _, _ => by simp
  | a :: l, hn, h1, h2 => by
    obtain ⟨ha, hl⟩ := List.nodup_cons.mp hn
    rw [List.flatMap_cons, List.nodup_append]
    refine ⟨h1 a (by simp), nd_flat hl (fun b hb => h1 b (by simp [hb])) (fun b hb c hc => h2 b (by simp [hb]) c (by simp [hc])), ?_⟩
    intro x hx y hy e
    subst e
    obtain ⟨b, hb, hyb⟩ := List.mem_flatMap.mp hy
    have := h2 a (by simp) b (by simp [hb]) x hx hyb
    subst this
    exact ha hb
theorem nd_zip {l : List Nat} (h : l.Nodup) : l.zipIdx.Nodup := by
  have : (l.zipIdx.map Prod.fst).Nodup := by rw [List.zipIdx_map_fst]; exact h
  unfold List.Nodup at this ⊢
  rw [List.pairwise_map] at this
  exact this.imp fun hne e => hne (by rw [e])
theorem comm_nd {row other : List Nat} (h : row.Nodup) : (comm row other).Nodup := by
  unfold comm
  refine nd_flat (nd_zip h) ?_ ?_
  · intro p _
    have h1 : (row.drop (p.2 + 1)).Nodup := h.sublist (List.drop_sublist _ _)
    have h2 := h1.filter (fun f => decide (other.idxOf p.1 < other.idxOf f))
    unfold List.Nodup at h2 ⊢
    rw [List.pairwise_map]
    exact h2.imp fun hne e => hne (by injection e)
  · rintro ⟨x, s⟩ hp ⟨y, t⟩ hq z hz hw
    obtain ⟨f, hf, rfl⟩ := List.mem_map.mp hz
    obtain ⟨g, hg, e⟩ := List.mem_map.mp hw
    have exy : y = x := by injection e
    subst exy
    have h1 := List.mk_mem_zipIdx_iff_getElem?.mp hp
    have h2 := List.mk_mem_zipIdx_iff_getElem?.mp hq
    obtain ⟨l1, e1⟩ := List.getElem?_eq_some_iff.mp h1
    obtain ⟨l2, e2⟩ := List.getElem?_eq_some_iff.mp h2
    have i1 := h.idxOf_getElem s l1
    have i2 := h.idxOf_getElem t l2
    rw [e1] at i1
    rw [e2] at i2
    rw [← i1, ← i2]
/-- two rows along the pairs with as many pairs in common: these are the pairs -/
theorem comm_is {n : Nat} {ps : NPs} (P : PoO n ps) {r o : List Nat} (hr : Lx n ps r) (ho : Lx n ps o) (hl : (comm r o).length = ps.length) (a b : Nat) (hb : b < n) : (r.idxOf a < r.idxOf b ∧ o.idxOf a < o.idxOf b) ↔ (a, b) ∈ ps := by
  have sub : ∀ p ∈ ps, p ∈ comm r o := fun p hp => (mem_comm hr.nd).mpr ⟨(hr.mem _).mpr (P.lt _ _ hp).2, hr.ext _ _ hp, ho.ext _ _ hp⟩
  have back := pg_all P.nd sub (by omega)
  constructor
  · rintro ⟨h1, h2⟩
    exact back _ ((mem_comm hr.nd).mpr ⟨(hr.mem _).mpr hb, h1, h2⟩)
  · intro h
    exact ⟨hr.ext _ _ h, ho.ext _ _ h⟩
/-- a row along the pairs -/
theorem lx_ex {n : Nat} {ps : NPs} (P : PoO n ps) : ∃ r, Lx n ps r := by
  have step : ∀ row, Px n ps row → row.length < n → ∃ x, x < n ∧ canGo ps row x = true := by
    intro row h hl
    obtain ⟨x0, hx0, hn0⟩ : ∃ x, x < n ∧ x ∉ row := by
      apply Classical.byContradiction
      intro hc
      have : ∀ x ∈ List.range n, x ∈ row := fun x hx => Classical.byContradiction fun q => hc ⟨x, List.mem_range.mp hx, q⟩
      have := pg_le List.nodup_range this
      rw [List.length_range] at this
      omega
    have down : ∀ (m x : Nat), x < n → x ∉ row → ((List.range n).filter fun a => decide ((a, x) ∈ ps)).length ≤ m → ∃ y, y < n ∧ canGo ps row y = true := by
      intro m
      induction m with
      | zero =>
        intro x hx hnx hm
        refine ⟨x, hx, canGo_iff.mpr ⟨hnx, fun a ha => ?_⟩⟩
        have : a ∈ (List.range n).filter fun a => decide ((a, x) ∈ ps) := List.mem_filter.mpr ⟨List.mem_range.mpr (P.lt _ _ ha).1, by simpa using ha⟩
        have := List.length_pos_of_mem this
        omega
      | succ m ih =>
        intro x hx hnx hm
        by_cases q : canGo ps row x = true
        · exact ⟨x, hx, q⟩
        · rw [canGo_iff] at q
          obtain ⟨y, hy, hny⟩ : ∃ y, (y, x) ∈ ps ∧ y ∉ row := by
            apply Classical.byContradiction
            intro hc
            exact q ⟨hnx, fun a ha => Classical.byContradiction fun z => hc ⟨a, ha, z⟩⟩
          refine ih y (P.lt _ _ hy).1 hny ?_
          have hyy : (y, y) ∉ ps := fun z => P.ne _ _ z rfl
          have nd1 : (y :: (List.range n).filter fun a => decide ((a, y) ∈ ps)).Nodup := List.nodup_cons.mpr ⟨by simp [hyy], List.nodup_range.filter _⟩
          have sub : ∀ z ∈ (y :: (List.range n).filter fun a => decide ((a, y) ∈ ps)), z ∈ (List.range n).filter fun a => decide ((a, x) ∈ ps) := by
            intro z hz
            rcases List.mem_cons.mp hz with rfl | hz
            · exact List.mem_filter.mpr ⟨List.mem_range.mpr (P.lt _ _ hy).1, by simpa using hy⟩
            · obtain ⟨h1, h2⟩ := List.mem_filter.mp hz
              refine List.mem_filter.mpr ⟨h1, ?_⟩
              simp only [decide_eq_true_eq] at h2 ⊢
              exact P.tr _ _ _ h2 hy
          have := pg_le nd1 sub
          rw [List.length_cons] at this
          omega
    exact down _ x0 hx0 hn0 (Nat.le_refl _)
  have go : ∀ k row, Px n ps row → row.length + k = n → ∃ r, Px n ps r ∧ r.length = n := by
    intro k
    induction k with
    | zero => intro row h e; exact ⟨row, h, by omega⟩
    | succ k ih =>
      intro row h e
      obtain ⟨x, hx, g⟩ := step row h (by omega)
      exact ih _ (h.snoc P.ne hx g) (by rw [List.length_append, List.length_singleton]; omega)
  obtain ⟨r, h, hl⟩ := go n [] ⟨by simp, by simp, by simp⟩ (by simp)
  have all := pg_all h.nd (r := List.range n) (fun x hx => List.mem_range.mpr (h.lt x hx)) (by rw [List.length_range]; omega)
  have mem : ∀ x, x ∈ r ↔ x < n := fun x => ⟨h.lt x, fun hx => all x (List.mem_range.mpr hx)⟩
  exact ⟨r, h.nd, mem, fun a b hab => (h.ext a b hab ((mem b).mpr (P.lt a b hab).2)).2⟩
/-! ### by tables -/
def prsN (n : Nat) : NPs := (List.range n).flatMap fun i => ((List.range n).filter fun j => Nat.blt i j).map fun j => (i, j)
def allB : Nat → List (List Bool)
  | 0 => [[]]
  | n + 1 => (allB n).flatMap fun l => [false :: l, true :: l]
theorem mem_allB : ∀ (l : List Bool), l ∈ allB l.length
  | [] => by simp [allB]
  | b :: l => by
    simp only [List.length_cons, allB, List.mem_flatMap]
    exact ⟨l, mem_allB l, by cases b <;> simp⟩
def relB (n : Nat) (bs : List Bool) (i j : Nat) : Bool := ((prsN n).zip bs).any fun q => Nat.beq q.1.1 i && Nat.beq q.1.2 j && q.2
theorem mem_prsN {n i j : Nat} : (i, j) ∈ prsN n ↔ i < j ∧ j < n := by
  unfold prsN
  simp only [List.mem_flatMap, List.mem_map, List.mem_filter, List.mem_range, Prod.mk.injEq]
  constructor
  · rintro ⟨a, ha, b, ⟨hb, hlt⟩, rfl, rfl⟩
    have := Nat.le_of_ble_eq_true hlt
    exact ⟨by omega, hb⟩
  · rintro ⟨h1, h2⟩
    exact ⟨i, by omega, j, ⟨h2, Nat.ble_eq_true_of_le h1⟩, rfl, rfl⟩
theorem any_zip {α : Type} (R : α → Bool) (T : α → Bool) : ∀ l : List α, ((l.zip (l.map R)).any fun q => T q.1 && q.2) = l.any fun a => T a && R a
  | [] => rfl
  | a :: l => by simp only [List.map_cons, List.zip_cons_cons, List.any_cons, any_zip R T l]
theorem relB_of {n : Nat} {R : Nat → Nat → Bool} {i j : Nat} : relB n ((prsN n).map fun p => R p.1 p.2) i j = true ↔ (i < j ∧ j < n ∧ R i j = true) := by
  unfold relB
  rw [any_zip (fun p : Nat × Nat => R p.1 p.2) (fun p => Nat.beq p.1 i && Nat.beq p.2 j)]
  rw [List.any_eq_true]
  constructor
  · rintro ⟨⟨a, b⟩, hm, h⟩
    simp only [Bool.and_eq_true, Nat.beq_eq] at h
    obtain ⟨⟨rfl, rfl⟩, h3⟩ := h
    obtain ⟨h1, h2⟩ := mem_prsN.mp hm
    exact ⟨h1, h2, h3⟩
  · rintro ⟨h1, h2, h3⟩
    exact ⟨(i, j), mem_prsN.mpr ⟨h1, h2⟩, by simp [h3]⟩
def rowOf : Nat → Nat → List Nat
  | 0, _ => []
  | n + 1, c => (c % 8) :: rowOf n (c / 8)
def trnB (n : Nat) (bs : List Bool) : Bool := (prsN n).all fun p => !relB n bs p.1 p.2 || (List.range n).all fun k => !relB n bs p.2 k || relB n bs p.1 k
def isRw (n : Nat) (p : List Nat) : Bool := (List.range n).all fun i => p.any fun x => Nat.beq x i
def ixN_ (p : List Nat) (i : Nat) : Nat := match p with
  | [] => 0
  | x :: r => bif Nat.beq x i then 0 else ixN_ r i + 1
theorem ixN_eq : ∀ (p : List Nat) (i : Nat), ixN_ p i = p.idxOf i
  | [], _ => by simp [ixN_]
  | x :: r, i => by
    simp only [ixN_, List.idxOf_cons, ixN_eq r i]
    by_cases q : x = i
    · subst q; simp
    · have : Nat.beq x i = false := by
        cases e : Nat.beq x i with
        | false => rfl
        | true => exact absurd (Nat.eq_of_beq_eq_true e) q
      have q2 : (x == i) = false := by simpa using q
      rw [this, q2]
def goodB (n : Nat) (bs : List Bool) (p q : List Nat) : Bool := isRw n p && isRw n q && (List.range n).all fun i => (List.range n).all fun j => (Nat.blt (ixN_ p i) (ixN_ p j) && Nat.blt (ixN_ q i) (ixN_ q j)) == relB n bs i j
def chkT (n : Nat) (t : NPs) : Bool := ((allB (n * (n - 1) / 2)).zip t).all fun e => !trnB n e.1 || goodB n e.1 (rowOf n e.2.1) (rowOf n e.2.2)
def tab39_0 : List (Nat × Nat) := [(0, 0)]
def tab39_1 : List (Nat × Nat) := [(0, 0)]
def tab39_2 : List (Nat × Nat) := [(8, 1), (8, 8)]
def tab39_3 : List (Nat × Nat) := [(136, 10), (136, 66), (80, 129), (136, 80), (136, 17), (0, 0), (136, 129), (136, 136)]
def tab39_4 : List (Nat × Nat) := [(1672, 83), (1672, 531), (1616, 1035), (1672, 643), (1112, 1546), (1224, 706), (720, 1217), (1672, 664), (1672, 139), (0, 0), (1672, 1035), (1672, 1091), (1112, 1553), (0, 0), (1112, 1665), (1672, 1112), (1224, 202), (0, 0), (1616, 1049), (0, 0), (1224, 1546), (1224, 1602), (1616, 1217), (1224, 1616), (1672, 153), (0, 0), (1672, 1049), (0, 0), (1224, 1553), (0, 0), (1672, 1217), (1672, 1224), (1672, 90), (1672, 538), (0, 0), (0, 0), (720, 1553), (1672, 706), (720, 1665), (1672, 720), (0, 0), (0, 0), (0, 0), (0, 0), (0, 0), (0, 0), (0, 0), (0, 0), (1672, 202), (0, 0), (0, 0), (0, 0), (1672, 1546), (1672, 1602), (1616, 1665), (1672, 1616), (1672, 209), (0, 0), (0, 0), (0, 0), (1672, 1553), (0, 0), (1672, 1665), (1672, 1672)]
def tab39_5 : List (Nat × Nat) := [(18056, 668), (18056, 4252), (18000, 8284), (18056, 5148), (17496, 12372), (17608, 5652), (17104, 9740), (18056, 5316), (13408, 16467), (13576, 6163), (13072, 10251), (14472, 5379), (8984, 14346), (10440, 5890), (6352, 9985), (18056, 5344), (18056, 1116), (0, 0), (18056, 8284), (18056, 8732), (17496, 12428), (0, 0), (17496, 13324), (18056, 8900), (13408, 16523), (0, 0), (13408, 17419), (14472, 8963), (8984, 14353), (0, 0), (8984, 14465), (18056, 8928), (17608, 1620), (0, 0), (18000, 8396), (0, 0), (17608, 12372), (17608, 12820), (18000, 9740), (17608, 12932), (9824, 16586), (0, 0), (13072, 10265), (0, 0), (9824, 17930), (10440, 13058), (13072, 10433), (17608, 12960), (18056, 1228), (0, 0), (18056, 8396), (0, 0), (17608, 12428), (0, 0), (18056, 9740), (18056, 9796), (13408, 16537), (0, 0), (13408, 17433), (0, 0), (9824, 17937), (0, 0), (13408, 17601), (18056, 9824), (13576, 2131), (0, 0), (14416, 8459), (0, 0), (10328, 12554), (0, 0), (17104, 9761), (0, 0), (13576, 16467), (13576, 16915), (14416, 10251), (13576, 17027), (10328, 14346), (9992, 17090), (17104, 9985), (13576, 17048), (14472, 1291), (0, 0), (14472, 8459), (0, 0), (17496, 12449), (0, 0), (17496, 13345), (0, 0), (13576, 16523), (0, 0), (14472, 10251), (14472, 10307), (10328, 14353), (0, 0), (17496, 13569), (14472, 10328), (10440, 1802), (0, 0), (18000, 8417), (0, 0), (10440, 12554), (0, 0), (18000, 9761), (0, 0), (9992, 16586), (0, 0), (14416, 10265), (0, 0), (10440, 14346), (10440, 14402), (18000, 9985), (10440, 14416), (18056, 1249), (0, 0), (18056, 8417), (0, 0), (17608, 12449), (0, 0), (18056, 9761), (0, 0), (13576, 16537), (0, 0), (14472, 10265), (0, 0), (10440, 14353), (0, 0), (18056, 9985), (18056, 9992), (18056, 724), (18056, 4308), (0, 0), (0, 0), (17104, 12428), (18056, 5652), (17104, 13324), (18056, 5764), (13408, 16474), (13576, 6170), (0, 0), (0, 0), (5792, 17937), (13576, 6338), (6352, 13569), (18056, 5792), (0, 0), (0, 0), (0, 0), (0, 0), (0, 0), (0, 0), (0, 0), (0, 0), (0, 0), (0, 0), (0, 0), (0, 0), (0, 0), (0, 0), (0, 0), (0, 0), (18056, 1620), (0, 0), (0, 0), (0, 0), (18056, 12372), (18056, 12820), (18000, 13324), (18056, 12932), (13408, 16586), (0, 0), (0, 0), (0, 0), (13408, 17930), (13408, 17986), (12960, 18049), (18056, 12960), (18056, 1676), (0, 0), (0, 0), (0, 0), (18056, 12428), (0, 0), (18056, 13324), (18056, 13380), (13408, 16593), (0, 0), (0, 0), (0, 0), (13408, 17937), (0, 0), (13408, 18049), (18056, 13408), (13576, 2138), (0, 0), (0, 0), (0, 0), (17104, 12449), (0, 0), (17104, 13345), (0, 0), (13576, 16474), (13576, 16922), (0, 0), (0, 0), (13569, 17090), (13576, 17090), (17104, 13569), (13576, 17104), (0, 0), (0, 0), (0, 0), (0, 0), (0, 0), (0, 0), (0, 0), (0, 0), (0, 0), (0, 0), (0, 0), (0, 0), (0, 0), (0, 0), (0, 0), (0, 0), (13576, 2250), (0, 0), (0, 0), (0, 0), (18000, 12449), (0, 0), (18000, 13345), (0, 0), (13576, 16586), (0, 0), (0, 0), (0, 0), (13576, 17930), (13576, 17986), (18000, 13569), (13576, 18000), (18056, 1697), (0, 0), (0, 0), (0, 0), (18056, 12449), (0, 0), (18056, 13345), (0, 0), (13576, 16593), (0, 0), (0, 0), (0, 0), (13576, 17937), (0, 0), (18056, 13569), (18056, 13576), (14472, 787), (14472, 4371), (0, 0), (0, 0), (17496, 12386), (17608, 5666), (0, 0), (0, 0), (13072, 16523), (14472, 6163), (13072, 17419), (14472, 6275), (6296, 14353), (17608, 5890), (5904, 17601), (14472, 6296), (0, 0), (0, 0), (0, 0), (0, 0), (0, 0), (0, 0), (0, 0), (0, 0), (0, 0), (0, 0), (0, 0), (0, 0), (0, 0), (0, 0), (0, 0), (0, 0), (17608, 1634), (0, 0), (0, 0), (0, 0), (17608, 12386), (17608, 12834), (0, 0), (0, 0), (13072, 16537), (0, 0), (13072, 17433), (0, 0), (17601, 13058), (17608, 13058), (13072, 17601), (17608, 13072), (0, 0), (0, 0), (0, 0), (0, 0), (0, 0), (0, 0), (0, 0), (0, 0), (0, 0), (0, 0), (0, 0), (0, 0), (0, 0), (0, 0), (0, 0), (0, 0), (14472, 2131), (0, 0), (0, 0), (0, 0), (17496, 12554), (0, 0), (0, 0), (0, 0), (14472, 16467), (14472, 16915), (14416, 17419), (14472, 17027), (17496, 14346), (17496, 14402), (17048, 14465), (14472, 17048), (14472, 2187), (0, 0), (0, 0), (0, 0), (17496, 12561), (0, 0), (0, 0), (0, 0), (14472, 16523), (0, 0), (14472, 17419), (14472, 17475), (17496, 14353), (0, 0), (17496, 14465), (14472, 17496), (17608, 1802), (0, 0), (0, 0), (0, 0), (17608, 12554), (0, 0), (0, 0), (0, 0), (14416, 16537), (0, 0), (14416, 17433), (0, 0), (17608, 14346), (17608, 14402), (14416, 17601), (17608, 14416), (14472, 2201), (0, 0), (0, 0), (0, 0), (17608, 12561), (0, 0), (0, 0), (0, 0), (14472, 16537), (0, 0), (14472, 17433), (0, 0), (17608, 14353), (0, 0), (14472, 17601), (14472, 17608), (18056, 738), (18056, 4322), (0, 0), (0, 0), (6352, 12561), (18056, 5666), (0, 0), (0, 0), (5904, 16593), (14472, 6170), (0, 0), (0, 0), (6352, 14353), (18056, 5890), (6352, 14465), (18056, 5904), (0, 0), (0, 0), (0, 0), (0, 0), (0, 0), (0, 0), (0, 0), (0, 0), (0, 0), (0, 0), (0, 0), (0, 0), (0, 0), (0, 0), (0, 0), (0, 0), (18056, 1634), (0, 0), (0, 0), (0, 0), (18056, 12386), (18056, 12834), (0, 0), (0, 0), (13072, 16593), (0, 0), (0, 0), (0, 0), (13072, 17937), (18056, 13058), (13072, 18049), (18056, 13072), (0, 0), (0, 0), (0, 0), (0, 0), (0, 0), (0, 0), (0, 0), (0, 0), (0, 0), (0, 0), (0, 0), (0, 0), (0, 0), (0, 0), (0, 0), (0, 0), (14472, 2138), (0, 0), (0, 0), (0, 0), (17104, 12561), (0, 0), (0, 0), (0, 0), (14472, 16474), (14472, 16922), (0, 0), (0, 0), (17104, 14353), (14472, 17090), (17104, 14465), (14472, 17104), (0, 0), (0, 0), (0, 0), (0, 0), (0, 0), (0, 0), (0, 0), (0, 0), (0, 0), (0, 0), (0, 0), (0, 0), (0, 0), (0, 0), (0, 0), (0, 0), (18056, 1802), (0, 0), (0, 0), (0, 0), (18056, 12554), (0, 0), (0, 0), (0, 0), (14472, 16586), (0, 0), (0, 0), (0, 0), (18056, 14346), (18056, 14402), (18000, 14465), (18056, 14416), (18056, 1809), (0, 0), (0, 0), (0, 0), (18056, 12561), (0, 0), (0, 0), (0, 0), (14472, 16593), (0, 0), (0, 0), (0, 0), (18056, 14353), (0, 0), (18056, 14465), (18056, 14472), (18056, 675), (18056, 4259), (18000, 8291), (18056, 5155), (0, 0), (0, 0), (0, 0), (0, 0), (8984, 16586), (10440, 6170), (6352, 10265), (18056, 5379), (8984, 17930), (10440, 6338), (6352, 10433), (18056, 5400), (18056, 1123), (0, 0), (18056, 8291), (18056, 8739), (0, 0), (0, 0), (0, 0), (0, 0), (8984, 16593), (0, 0), (18049, 8963), (18056, 8963), (8984, 17937), (0, 0), (8984, 18049), (18056, 8984), (0, 0), (0, 0), (0, 0), (0, 0), (0, 0), (0, 0), (0, 0), (0, 0), (0, 0), (0, 0), (0, 0), (0, 0), (0, 0), (0, 0), (0, 0), (0, 0), (0, 0), (0, 0), (0, 0), (0, 0), (0, 0), (0, 0), (0, 0), (0, 0), (0, 0), (0, 0), (0, 0), (0, 0), (0, 0), (0, 0), (0, 0), (0, 0), (10440, 2138), (0, 0), (18000, 8459), (0, 0), (0, 0), (0, 0), (0, 0), (0, 0), (10440, 16474), (10440, 16922), (18000, 10251), (18000, 10307), (10328, 17930), (10440, 17090), (17104, 10433), (10440, 17104), (18056, 1291), (0, 0), (18056, 8459), (0, 0), (0, 0), (0, 0), (0, 0), (0, 0), (10328, 16593), (0, 0), (18056, 10251), (18056, 10307), (10328, 17937), (0, 0), (10328, 18049), (18056, 10328), (10440, 2250), (0, 0), (18000, 8473), (0, 0), (0, 0), (0, 0), (0, 0), (0, 0), (10440, 16586), (0, 0), (18000, 10265), (0, 0), (10440, 17930), (10440, 17986), (18000, 10433), (10440, 18000), (18056, 1305), (0, 0), (18056, 8473), (0, 0), (0, 0), (0, 0), (0, 0), (0, 0), (10440, 16593), (0, 0), (18056, 10265), (0, 0), (10440, 17937), (0, 0), (18056, 10433), (18056, 10440), (0, 0), (0, 0), (0, 0), (0, 0), (0, 0), (0, 0), (0, 0), (0, 0), (0, 0), (0, 0), (0, 0), (0, 0), (0, 0), (0, 0), (0, 0), (0, 0), (0, 0), (0, 0), (0, 0), (0, 0), (0, 0), (0, 0), (0, 0), (0, 0), (0, 0), (0, 0), (0, 0), (0, 0), (0, 0), (0, 0), (0, 0), (0, 0), (0, 0), (0, 0), (0, 0), (0, 0), (0, 0), (0, 0), (0, 0), (0, 0), (0, 0), (0, 0), (0, 0), (0, 0), (0, 0), (0, 0), (0, 0), (0, 0), (0, 0), (0, 0), (0, 0), (0, 0), (0, 0), (0, 0), (0, 0), (0, 0), (0, 0), (0, 0), (0, 0), (0, 0), (0, 0), (0, 0), (0, 0), (0, 0), (0, 0), (0, 0), (0, 0), (0, 0), (0, 0), (0, 0), (0, 0), (0, 0), (0, 0), (0, 0), (0, 0), (0, 0), (0, 0), (0, 0), (0, 0), (0, 0), (0, 0), (0, 0), (0, 0), (0, 0), (0, 0), (0, 0), (0, 0), (0, 0), (0, 0), (0, 0), (0, 0), (0, 0), (0, 0), (0, 0), (0, 0), (0, 0), (0, 0), (0, 0), (0, 0), (0, 0), (0, 0), (0, 0), (0, 0), (0, 0), (0, 0), (0, 0), (0, 0), (0, 0), (0, 0), (0, 0), (0, 0), (0, 0), (0, 0), (0, 0), (0, 0), (0, 0), (0, 0), (0, 0), (0, 0), (0, 0), (0, 0), (0, 0), (0, 0), (0, 0), (0, 0), (0, 0), (0, 0), (0, 0), (18056, 787), (18056, 4371), (0, 0), (0, 0), (0, 0), (0, 0), (0, 0), (0, 0), (6352, 16537), (18056, 6163), (6352, 17433), (18056, 6275), (6296, 17937), (17608, 6338), (6352, 17601), (18056, 6296), (0, 0), (0, 0), (0, 0), (0, 0), (0, 0), (0, 0), (0, 0), (0, 0), (0, 0), (0, 0), (0, 0), (0, 0), (0, 0), (0, 0), (0, 0), (0, 0), (0, 0), (0, 0), (0, 0), (0, 0), (0, 0), (0, 0), (0, 0), (0, 0), (0, 0), (0, 0), (0, 0), (0, 0), (0, 0), (0, 0), (0, 0), (0, 0), (0, 0), (0, 0), (0, 0), (0, 0), (0, 0), (0, 0), (0, 0), (0, 0), (0, 0), (0, 0), (0, 0), (0, 0), (0, 0), (0, 0), (0, 0), (0, 0), (18056, 2131), (0, 0), (0, 0), (0, 0), (0, 0), (0, 0), (0, 0), (0, 0), (18056, 16467), (18056, 16915), (18000, 17419), (18056, 17027), (17496, 17930), (17608, 17090), (17104, 17601), (18056, 17048), (18056, 2187), (0, 0), (0, 0), (0, 0), (0, 0), (0, 0), (0, 0), (0, 0), (18056, 16523), (0, 0), (18056, 17419), (18056, 17475), (17496, 17937), (0, 0), (17496, 18049), (18056, 17496), (17608, 2250), (0, 0), (0, 0), (0, 0), (0, 0), (0, 0), (0, 0), (0, 0), (17608, 16586), (0, 0), (18000, 17433), (0, 0), (17608, 17930), (17608, 17986), (18000, 17601), (17608, 18000), (18056, 2201), (0, 0), (0, 0), (0, 0), (0, 0), (0, 0), (0, 0), (0, 0), (18056, 16537), (0, 0), (18056, 17433), (0, 0), (17608, 17937), (0, 0), (18056, 17601), (18056, 17608), (18056, 794), (18056, 4378), (0, 0), (0, 0), (0, 0), (0, 0), (0, 0), (0, 0), (6352, 16593), (18056, 6170), (0, 0), (0, 0), (6352, 17937), (18056, 6338), (6352, 18049), (18056, 6352), (0, 0), (0, 0), (0, 0), (0, 0), (0, 0), (0, 0), (0, 0), (0, 0), (0, 0), (0, 0), (0, 0), (0, 0), (0, 0), (0, 0), (0, 0), (0, 0), (0, 0), (0, 0), (0, 0), (0, 0), (0, 0), (0, 0), (0, 0), (0, 0), (0, 0), (0, 0), (0, 0), (0, 0), (0, 0), (0, 0), (0, 0), (0, 0), (0, 0), (0, 0), (0, 0), (0, 0), (0, 0), (0, 0), (0, 0), (0, 0), (0, 0), (0, 0), (0, 0), (0, 0), (0, 0), (0, 0), (0, 0), (0, 0), (18056, 2138), (0, 0), (0, 0), (0, 0), (0, 0), (0, 0), (0, 0), (0, 0), (18056, 16474), (18056, 16922), (0, 0), (0, 0), (17104, 17937), (18056, 17090), (17104, 18049), (18056, 17104), (0, 0), (0, 0), (0, 0), (0, 0), (0, 0), (0, 0), (0, 0), (0, 0), (0, 0), (0, 0), (0, 0), (0, 0), (0, 0), (0, 0), (0, 0), (0, 0), (18056, 2250), (0, 0), (0, 0), (0, 0), (0, 0), (0, 0), (0, 0), (0, 0), (18056, 16586), (0, 0), (0, 0), (0, 0), (18056, 17930), (18056, 17986), (18000, 18049), (18056, 18000), (18056, 2257), (0, 0), (0, 0), (0, 0), (0, 0), (0, 0), (0, 0), (0, 0), (18056, 16593), (0, 0), (0, 0), (0, 0), (18056, 17937), (0, 0), (18056, 18049), (18056, 18056)]
theorem chk_0 : chkT 0 tab39_0 = true := by decide +kernel
theorem chk_1 : chkT 1 tab39_1 = true := by decide +kernel
theorem chk_2 : chkT 2 tab39_2 = true := by decide +kernel
theorem chk_3 : chkT 3 tab39_3 = true := by decide +kernel
theorem chk_4 : chkT 4 tab39_4 = true := by decide +kernel
theorem chk_5 : chkT 5 tab39_5 = true := by decide +kernel
theorem tab_ex {n : Nat} (hn : n ≤ 5) : ∃ t : NPs, t.length = (allB (n * (n - 1) / 2)).length ∧ (prsN n).length = n * (n - 1) / 2 ∧ chkT n t = true := by
  match n, hn with
  | 0, _ => exact ⟨_, by decide +kernel, by decide +kernel, chk_0⟩
  | 1, _ => exact ⟨_, by decide +kernel, by decide +kernel, chk_1⟩
  | 2, _ => exact ⟨_, by decide +kernel, by decide +kernel, chk_2⟩
  | 3, _ => exact ⟨_, by decide +kernel, by decide +kernel, chk_3⟩
  | 4, _ => exact ⟨_, by decide +kernel, by decide +kernel, chk_4⟩
  | 5, _ => exact ⟨_, by decide +kernel, by decide +kernel, chk_5⟩
  | n + 6, h => omega
theorem zip_mem {α β : Type} : ∀ {l : List α} {t : List β}, t.length = l.length → ∀ a ∈ l, ∃ b, (a, b) ∈ l.zip t
  | [], _, _, _, h => by cases h
  | x :: l, [], h, _, _ => by cases h
  | x :: l, y :: t, h, a, m => by
    rcases List.mem_cons.mp m with rfl | m
    · exact ⟨y, by simp⟩
    · obtain ⟨b, hb⟩ := zip_mem (l := l) (t := t) (by simpa using h) a m
      exact ⟨b, by simp [hb]⟩
theorem rowOf_len : ∀ n c, (rowOf n c).length = n
  | 0, _ => rfl
  | n + 1, c => by simp [rowOf, rowOf_len n]
/-- a relation below n that goes on, and goes up: two rows -/
theorem two_up {n : Nat} (hn : n ≤ 5) (R : Nat → Nat → Bool) (up : ∀ i j, R i j = true → i < j ∧ j < n) (tr : ∀ i j k, R i j = true → R j k = true → R i k = true) :
    ∃ p q : List Nat, p.length = n ∧ q.length = n ∧ (∀ i, i < n → i ∈ p) ∧ (∀ i, i < n → i ∈ q) ∧ ∀ i j, i < n → j < n → ((p.idxOf i < p.idxOf j ∧ q.idxOf i < q.idxOf j) ↔ R i j = true) := by
  obtain ⟨t, ht, hp, hc⟩ := tab_ex hn
  have hb := mem_allB ((prsN n).map fun p => R p.1 p.2)
  rw [List.length_map, hp] at hb
  obtain ⟨c, hm⟩ := zip_mem ht _ hb
  have rel : ∀ i j, relB n ((prsN n).map fun p => R p.1 p.2) i j = R i j := fun i j => by
    rw [Bool.eq_iff_iff, relB_of]
    exact ⟨fun h => h.2.2, fun h => ⟨(up i j h).1, (up i j h).2, h⟩⟩
  have h1 := (List.all_eq_true.mp hc) _ hm
  have ht : trnB n ((prsN n).map fun p => R p.1 p.2) = true := by
    unfold trnB
    simp only [rel, List.all_eq_true, Bool.or_eq_true, Bool.not_eq_true']
    intro p _
    by_cases q : R p.1 p.2 = true
    · right
      intro k _
      by_cases q2 : R p.2 k = true
      · right; exact tr _ _ _ q q2
      · left; simpa using q2
    · left; simpa using q
  simp only [ht, Bool.not_true, Bool.false_or] at h1
  unfold goodB at h1
  simp only [Bool.and_eq_true, List.all_eq_true, rel, isRw, List.any_eq_true, Nat.beq_eq, List.mem_range, ixN_eq, beq_iff_eq] at h1
  obtain ⟨⟨g1, g2⟩, g3⟩ := h1
  refine ⟨rowOf n c.1, rowOf n c.2, rowOf_len _ _, rowOf_len _ _, fun i hi => ?_, fun i hi => ?_, fun i j hi hj => ?_⟩
  · obtain ⟨x, hx, rfl⟩ := g1 i hi; exact hx
  · obtain ⟨x, hx, rfl⟩ := g2 i hi; exact hx
  · have := g3 i hi j hj
    rw [← this]
    simp only [Bool.and_eq_true, Nat.blt_eq]
theorem idxOf_map {f : Nat → Nat} : ∀ {l : List Nat} {x : Nat}, (∀ y ∈ l, f y = f x → y = x) → (l.map f).idxOf (f x) = l.idxOf x
  | [], _, _ => by simp
  | y :: l, x, h => by
    rw [List.map_cons, List.idxOf_cons, List.idxOf_cons, idxOf_map fun z hz => h z (by simp [hz])]
    by_cases q : y = x
    · subst q; simp
    · have q1 : (f y == f x) = false := by simpa using fun e => q (h y (by simp) e)
      have q2 : (y == x) = false := by simpa using q
      rw [q1, q2]
theorem nd_of_len {n : Nat} {p : List Nat} (hl : p.length = n) (h : ∀ i, i < n → i ∈ p) : p.Nodup ∧ ∀ i ∈ p, i < n := by
  have back := pg_all (List.nodup_range (n := n)) (r := p) (fun x hx => h x (List.mem_range.mp hx)) (by rw [List.length_range]; omega)
  refine ⟨?_, fun i hi => List.mem_range.mp (back i hi)⟩
  have key : ∀ (m : Nat) (q : List Nat), q.length ≤ m → (∀ s : List Nat, s.Nodup → (∀ x ∈ s, x ∈ q) → s.length ≤ q.length) → (∃ s : List Nat, s.Nodup ∧ (∀ x ∈ s, x ∈ q) ∧ s.length = q.length) → q.Nodup := by
    intro m
    induction m with
    | zero => intro q hq _ _; cases q <;> simp_all
    | succ m ih =>
      intro q hq _ hs
      cases q with
      | nil => simp
      | cons a q =>
        obtain ⟨s, s1, s2, s3⟩ := hs
        rw [List.length_cons] at s3
        have ha : a ∉ q := by
          intro ha
          have := pg_le s1 (r := q) fun x hx => by
            rcases List.mem_cons.mp (s2 x hx) with rfl | h
            · exact ha
            · exact h
          omega
        refine List.nodup_cons.mpr ⟨ha, ih q (by simp at hq; omega) (fun s h1 h2 => pg_le h1 h2) ⟨s.erase a, s1.erase a, ?_, ?_⟩⟩
        · intro x hx
          have hne : x ≠ a := fun e => by
            subst e
            exact s1.not_mem_erase hx
          rcases List.mem_cons.mp (s2 x (List.mem_of_mem_erase hx)) with rfl | h
          · exact absurd rfl hne
          · exact h
        · have has : a ∈ s := pg_all s1 s2 (by rw [List.length_cons]; omega) a (by simp)
          rw [List.length_erase_of_mem has]; omega
  exact key p.length p (Nat.le_refl _) (fun s h1 h2 => pg_le h1 h2) ⟨List.range n, List.nodup_range, fun x hx => h x (List.mem_range.mp hx), by rw [List.length_range, hl]⟩
theorem two_rows_ex {n : Nat} {ps : NPs} (hn : n ≤ 5) (P : PoO n ps) : ∃ r o, r ∈ rowsA n ps n [] ∧ o ∈ rowsA n ps n [] ∧ (comm r o).length = ps.length := by
  obtain ⟨e, E⟩ := lx_ex P
  have el := E.len
  let f : Nat → Nat := fun i => e.getD i 0
  have fe : ∀ i (h : i < n), f i = e[i] := fun i h => by show e.getD i 0 = _; rw [List.getD_eq_getElem?_getD, List.getElem?_eq_getElem (by omega)]; rfl
  have fx : ∀ i, i < n → e.idxOf (f i) = i := fun i h => by rw [fe i h]; exact E.nd.idxOf_getElem _ _
  have inj : ∀ i j, i < n → j < n → f i = f j → i = j := fun i j hi hj q => by rw [← fx i hi, ← fx j hj, q]
  have sur : ∀ x, x < n → ∃ i, i < n ∧ f i = x := fun x hx => by
    have hl := List.idxOf_lt_length_of_mem ((E.mem x).mpr hx)
    exact ⟨e.idxOf x, by omega, by rw [fe _ (by omega)]; exact List.getElem_idxOf hl⟩
  have flt : ∀ i, i < n → f i < n := fun i hi => by rw [fe i hi]; exact (E.mem _).mp (List.getElem_mem _)
  let R : Nat → Nat → Bool := fun i j => decide (i < n) && decide (j < n) && decide ((f i, f j) ∈ ps)
  have Ri : ∀ i j, R i j = true ↔ i < n ∧ j < n ∧ (f i, f j) ∈ ps := fun i j => by simp [R, and_assoc]
  obtain ⟨p, q, pl, ql, pm, qm, h⟩ := two_up hn R (fun i j h => by
      obtain ⟨h1, h2, h3⟩ := (Ri i j).mp h
      have := E.ext _ _ h3
      rw [fx i h1, fx j h2] at this
      exact ⟨this, h2⟩) (fun i j k h1 h2 => by
      obtain ⟨a1, a2, a3⟩ := (Ri i j).mp h1
      obtain ⟨b1, b2, b3⟩ := (Ri j k).mp h2
      exact (Ri i k).mpr ⟨a1, b2, P.tr _ _ _ a3 b3⟩)
  obtain ⟨pn, pb⟩ := nd_of_len pl pm
  obtain ⟨qn, qb⟩ := nd_of_len ql qm
  have ix : ∀ (s : List Nat), (∀ i ∈ s, i < n) → ∀ i, i < n → (s.map f).idxOf (f i) = s.idxOf i := fun s hs i hi => idxOf_map fun y hy e => inj _ _ (hs y hy) hi e
  have mk : ∀ (s : List Nat), s.Nodup → (∀ i ∈ s, i < n) → (∀ i, i < n → i ∈ s) → (∀ i j, R i j = true → s.idxOf i < s.idxOf j) → Lx n ps (s.map f) := by
    intro s sn sb sm sx
    refine ⟨?_, fun x => ⟨?_, fun hx => ?_⟩, fun a b hab => ?_⟩
    · unfold List.Nodup at sn ⊢
      rw [List.pairwise_map]
      exact List.Pairwise.imp_of_mem (fun {a b} ha hb hne e => hne (inj _ _ (sb a ha) (sb b hb) e)) sn
    · intro hx
      obtain ⟨i, hi, rfl⟩ := List.mem_map.mp hx
      exact flt i (sb i hi)
    · obtain ⟨i, hi, rfl⟩ := sur x hx
      exact List.mem_map.mpr ⟨i, sm i hi, rfl⟩
    · obtain ⟨i, hi, rfl⟩ := sur a (P.lt _ _ hab).1
      obtain ⟨j, hj, rfl⟩ := sur b (P.lt _ _ hab).2
      rw [ix s sb i hi, ix s sb j hj]
      exact sx i j ((Ri i j).mpr ⟨hi, hj, hab⟩)
  have L1 := mk p pn pb pm fun i j hr => by
    obtain ⟨a1, a2, _⟩ := (Ri i j).mp hr
    exact ((h i j a1 a2).mpr hr).1
  have L2 := mk q qn qb qm fun i j hr => by
    obtain ⟨a1, a2, _⟩ := (Ri i j).mp hr
    exact ((h i j a1 a2).mpr hr).2
  refine ⟨p.map f, q.map f, lx_rows L1, lx_rows L2, ?_⟩
  refine Nat.le_antisymm (pg_le (comm_nd L1.nd) ?_) (pg_le P.nd ?_)
  · rintro ⟨a, b⟩ hab
    obtain ⟨hb, h1, h2⟩ := (mem_comm L1.nd).mp hab
    have ha : a ∈ p.map f := by
      apply Classical.byContradiction
      intro hna
      have e1 := List.idxOf_eq_length hna
      have e2 := List.idxOf_lt_length_of_mem hb
      omega
    obtain ⟨i, hi, rfl⟩ := sur a ((L1.mem _).mp ha)
    obtain ⟨j, hj, rfl⟩ := sur b ((L1.mem _).mp hb)
    rw [ix p pb i hi, ix p pb j hj] at h1
    rw [ix q qb i hi, ix q qb j hj] at h2
    exact ((Ri i j).mp ((h i j hi hj).mp ⟨h1, h2⟩)).2.2
  · rintro ⟨a, b⟩ hab
    exact (mem_comm L1.nd).mpr ⟨(L1.mem _).mpr (P.lt _ _ hab).2, L1.ext _ _ hab, L2.ext _ _ hab⟩
end L2.Z.Lw

set_option Elab.async false
set_option linter.all false
set_option maxRecDepth 100000
set_option maxHeartbeats 4000000
/-! P39: the program's side of k39 -/
namespace L2.Z.Lw
open PySem PySem.Spec PyProof.Rows
local macro_rules | `(tactic| walk_at "z1") => `(tactic| (first
  | ((with_reducible refine z_var ?_); refine ⟨_, rfl, ?_⟩)
  | with_reducible refine w_C ?_
  | with_reducible refine w_cons ?_
  | with_reducible refine w_nil ?_
  | with_reducible refine w_call ?_
  | with_reducible refine w_e2 ?_
  | with_reducible refine w_e1 ?_
  | with_reducible refine w_cb ?_
  | ((with_reducible refine z_mod ?_ ?_); (first | omega | (simp only [List.length_map, List.length_append, List.length_range]; omega)))
  | ((with_reducible refine z_div ?_ ?_ ?_); (omega); (omega))
  | ((with_reducible refine z_mul ?_ ?_); (first | (left; omega) | (right; omega)))
  | ((with_reducible refine z_pow ?_ ?_); (decide))
  | with_reducible refine z_fld (by kernel_rfl) (by kernel_rfl) ?_
  | with_reducible refine w_d0 ?_
  | with_reducible refine w_co ?_
  | with_reducible refine w_xtp ?_
  | with_reducible refine w_idx ?_
  | with_reducible refine w_chkXt ?_
  | with_reducible refine w_dc ?_
  | with_reducible refine w_star ?_
  | with_reducible refine w_irng3 ?_
  | with_reducible refine z_kget ?_
  | with_reducible refine z_revT ?_
  | with_reducible refine z_max3 ?_
  | ((with_reducible refine z_wo ?_); refine ⟨_, _, rfl, ?_⟩)
  | with_reducible refine w_tV ?_
  | ((with_reducible refine z_itR ?_ ?_); (first | omega | (simp only [List.length_map, List.length_append, List.length_range]; omega)))
  | ((with_reducible refine z_itR2 ?_ ?_); (omega))
  | ((with_reducible refine z_wt ?_); refine ⟨_, rfl, ?_⟩)
  | with_reducible refine ws_seq ?_
  | ((with_reducible refine sq_nx ?_); try simp only [List.set_cons_zero, List.set_cons_succ])
  | with_reducible refine sq_rt ?_
  | with_reducible refine sq_xc ?_
  | with_reducible refine fz_rt ?_
  | with_reducible refine fz_nx ?_
  | with_reducible refine fz_xc ?_
  | ((with_reducible refine lp_nx ?_); try simp only [List.set_cons_zero, List.set_cons_succ])
  | with_reducible refine lp_rt ?_
  | with_reducible refine lp_xc ?_
  | with_reducible refine lp_bk ?_
  | with_reducible refine lp_ct ?_
  | with_reducible refine ws_if ?_
  | with_reducible refine ws_set ?_
  | with_reducible refine ws_ret ?_
  | with_reducible refine ws_retN ?_
  | with_reducible refine ws_nil ?_
  | with_reducible refine ws_drop ?_
  | with_reducible refine w_tN ?_
  | with_reducible refine w_tA ?_
  | with_reducible refine w_tO ?_
  | with_reducible refine w_tY ?_
  | with_reducible refine wQ_t rfl ?_
  | with_reducible refine wQ_f rfl ?_
  | with_reducible refine wB_t rfl ?_
  | with_reducible refine wB_f rfl ?_
  | with_reducible refine w_tup ?_
  | with_reducible refine w_lst ?_
  | ((with_reducible refine z_wz ?_ ?_); (exact rfl))
  | with_reducible refine w_and ?_
  | with_reducible refine w_or ?_
  | with_reducible refine w_not ?_
  | with_reducible refine w_if ?_
  | with_reducible refine w_chain ?_
  | with_reducible refine ws_un ?_
  | with_reducible refine ws_par ?_
  | with_reducible refine ws_par3 ?_
  | with_reducible refine ws_sub ?_
  | with_reducible refine ws_raise ?_
  | with_reducible refine ws_for ?_
  | with_reducible refine w_lc ?_
  | with_reducible refine w_lc2 ?_
  | with_reducible refine w_isq ?_
  | with_reducible refine w_irng1 ?_
  | with_reducible refine w_irng2 ?_
  | with_reducible refine w_ienm ?_
  | with_reducible refine w_ienmK ?_
  | with_reducible refine w_izp ?_
  | with_reducible refine w_sl ?_
  | with_reducible refine w_oN ?_
  | with_reducible refine w_oS ?_
  | with_reducible refine w_m ?_
  | ((with_reducible refine w_lam ?_); try simp only [List.replicate_succ, List.replicate_zero, Nat.reduceSub])
  | ((with_reducible refine sj_nx ?_); try simp only [List.set_cons_zero, List.set_cons_succ])
  | with_reducible refine sj_rt ?_
  | with_reducible refine sj_xc ?_
  | with_reducible refine sj_bk ?_
  | with_reducible refine sj_ct ?_
  | with_reducible refine ws_try ?_
  | with_reducible refine tr_nx ?_
  | with_reducible refine tr_rt ?_
  | with_reducible refine tr_xc ?_
  | with_reducible refine w_dict ?_
  | with_reducible refine w_pcons ?_
  | with_reducible refine w_pnil ?_
  | with_reducible refine rh_nx ?_
  | with_reducible refine rh_rt ?_
  | fail "z"))
local macro_rules | `(tactic| walk_at "z") => `(tactic| ((repeat' (walk_at "z1")); try dsimp only))
local macro_rules | `(tactic| walk_at "zF") => `(tactic| (refine wQ_f (by simp only [decide_eq_false_iff_not, decide_eq_true_eq, List.length_map, List.length_append, Int.not_lt, Bool.not_eq_eq_eq_not, Bool.not_true, Bool.not_false]; omega) ?_; walk_at "z"))
local macro_rules | `(tactic| walk_at "zT") => `(tactic| (refine wQ_t (by simp only [decide_eq_false_iff_not, decide_eq_true_eq, List.length_map, List.length_append, Int.not_lt, Bool.not_eq_eq_eq_not, Bool.not_true, Bool.not_false]; omega) ?_; walk_at "z"))
local macro_rules | `(tactic| walk_at "z0") => `(tactic| simp only [List.map_cons, List.map_nil, List.replicate_succ, List.replicate_zero, List.cons_append, List.nil_append, Nat.reduceSub, Nat.sub_self])
local macro_rules | `(tactic| walk_at "zc") => `(tactic| (walk_at "z0"; walk_at "z"))
def dP (p : Nat × Nat) : D := .tup [.int (p.1 : Nat), .int (p.2 : Nat)]
def dPs (ps : NPs) : D := .tup (ps.map dP)
def dX (x : Nat) : D := .int (x : Nat)
def dR (r : List Nat) : D := .xtp (r.map dX)
def pX (x : Nat) : PyData := .int (x : Nat)
def pP (p : Nat × Nat) : PyData := .tuple [.int (p.1 : Nat), .int (p.2 : Nat)]
theorem pd_X {S : Sto} {n : Nat} (x : Nat) : toPD n S (dX x) = some (pX x) := pd_int
theorem pd_P {S : Sto} {n : Nat} (p : Nat × Nat) : toPD (n + 2) S (dP p) = some (pP p) := pd_tup (by simp only [toPDs, pd_int])
theorem pd_Xs {S : Sto} {l : List Nat} : toPD 40 S (.tup (l.map dX)) = some (.tuple (l.map pX)) := pd_tup (toPDs_map (fun p => pd_X p) _)
theorem pd_Ps {S : Sto} {l : NPs} : toPD 40 S (.tup (l.map dP)) = some (.tuple (l.map pP)) := pd_tup (toPDs_map (fun p => pd_P p) _)
theorem eqv_X (p q : Nat) : PyData.eqv (pX p) (pX q) = (p == q) := by
  rw [Bool.eq_iff_iff, beq_iff_eq]
  simp only [pX, PyData.eqv, beq_iff_eq]
  omega
theorem eqv_P (p q : Nat × Nat) : PyData.eqv (pP p) (pP q) = (p == q) := by
  rw [Bool.eq_iff_iff, beq_iff_eq]
  simp only [pP, PyData.eqv, PyData.eqvAll, Bool.and_true, Bool.and_eq_true, beq_iff_eq]
  constructor
  · rintro ⟨h1, h2⟩; exact Prod.ext (by omega) (by omega)
  · rintro rfl; exact ⟨rfl, rfl⟩
theorem any_X (l : List Nat) (x : Nat) : ((l.map pX).any fun z => PyData.eqv z (pX x)) = l.contains x := by
  rw [Bool.eq_iff_iff, List.any_eq_true, List.contains_iff_mem]
  constructor
  · rintro ⟨y, hy, h⟩
    obtain ⟨z, hz, rfl⟩ := List.mem_map.mp hy
    rw [eqv_X, beq_iff_eq] at h
    exact h ▸ hz
  · intro h
    exact ⟨_, List.mem_map.mpr ⟨x, h, rfl⟩, by rw [eqv_X]; simp⟩
theorem any_P (l : NPs) (x : Nat × Nat) : ((l.map pP).any fun z => PyData.eqv z (pP x)) = l.contains x := by
  rw [Bool.eq_iff_iff, List.any_eq_true, List.contains_iff_mem]
  constructor
  · rintro ⟨y, hy, h⟩
    obtain ⟨z, hz, rfl⟩ := List.mem_map.mp hy
    rw [eqv_P, beq_iff_eq] at h
    exact h ▸ hz
  · intro h
    exact ⟨_, List.mem_map.mpr ⟨x, h, rfl⟩, by rw [eqv_P]; simp⟩
theorem ints_X (l : List Nat) : l.map dX = (l.map fun x : Nat => (x : Int)).map .int := by rw [List.map_map]; rfl
theorem mem_X {l : List Nat} {x : Nat} (h : x ∈ l) : (x : Int) ∈ l.map fun x : Nat => (x : Int) := List.mem_map.mpr ⟨x, h, rfl⟩
theorem idx_X : ∀ (l : List Nat) (x : Nat), (l.map fun x : Nat => (x : Int)).idxOf (x : Int) = l.idxOf x
  | [], x => by simp
  | y :: l, x => by
    rw [List.map_cons, List.idxOf_cons, List.idxOf_cons, idx_X l x]
    have : ((y : Int) == (x : Int)) = (y == x) := by rw [Bool.eq_iff_iff, beq_iff_eq, beq_iff_eq]; omega
    rw [this]
theorem flatB {α β : Type} {f : α → List β} {m : Nat} (l : List α) (h : ∀ a ∈ l, (f a).length ≤ m) : (l.flatMap f).length ≤ l.length * m := by
  induction l with
  | nil => simp
  | cons a l ih =>
    have h1 := h a (by simp)
    have h2 := ih fun b hb => h b (by simp [hb])
    simp only [List.flatMap_cons, List.length_append, List.length_cons, Nat.succ_mul]
    omega
theorem rows_len (n : Nat) (ps : NPs) : ∀ (k : Nat) (row : List Nat), (rowsA n ps k row).length ≤ n ^ k
  | 0, row => by simp [rowsA]
  | k + 1, row => by
    simp only [rowsA]
    have := flatB (m := n ^ k) (f := fun x => if canGo ps row x = true then rowsA n ps k (row ++ [x]) else []) (List.range n) (fun x _ => by
      split
      · exact rows_len n ps k _
      · simp)
    rw [List.length_range] at this
    rw [Nat.pow_succ, Nat.mul_comm]
    exact this
theorem pow5 {n m : Nat} (hn : n ≤ 5) (hm : m ≤ 5) : n ^ m ≤ 3125 := Nat.le_trans (Nat.pow_le_pow_left hn m) (Nat.le_trans (Nat.pow_le_pow_right (by omega) hm) (by decide))
section
variable {k : Nat} {S : Sto}
theorem s_is_integer {i : Int} : wp (callZ bs (k + 1) i_is_integer [.int i]) S (fun d S' => d = .bl true ∧ S' = S) noX := by
  refine call_go (b := b_is_integer) rfl rfl rfl ?_
  unfold b_is_integer
  walk_at "zc"
  exact ⟨rfl, rfl⟩
theorem s_is_between {i a b : Int} : wp (callZ bs (k + 2) i_is_between [.int i, .int a, .int b]) S (fun d S' => d = .bl (decide (a ≤ i) && decide (i ≤ b)) ∧ S' = S) noX := by
  refine call_go (b := b_is_between) rfl rfl rfl ?_
  unfold b_is_between
  walk_at "zc"
  refine s_is_integer.use ?_
  rintro d S1 ⟨rfl, rfl⟩
  walk_at "z"
  refine wB_c (fun h => ?_) (fun h => ?_)
  · walk_at "z"
    rw [h]
    exact ⟨by simp, rfl⟩
  · walk_at "z"
    rw [h]
    exact ⟨by simp, rfl⟩
theorem s_is_pair {n : Nat} {p : Nat × Nat} (h1 : p.1 < n) (h2 : p.2 < n) (h3 : p.1 ≠ p.2) : wp (callZ bs (k + 3) i_is_pair [.int (n : Nat), dP p]) S (fun d S' => d = .bl true ∧ Gr S S') noX := by
  refine call_go (b := b_is_pair) rfl rfl rfl ?_
  unfold b_is_pair dP
  walk_at "zc"
  refine lc_F1 (as := [p.1, p.2]) (e := dX) (fun _ => .bl true) (Nat.le_of_ble_eq_true rfl) (fun i hi S1 gr => ?_) (fun S1 gr hn g => ?_)
  · walk_at "z"
    unfold dX
    refine s_is_between.use ?_
    rintro d S2 ⟨rfl, rfl⟩
    refine ⟨?_, Gx.refl _ _⟩
    have : i < n := by
      simp only [List.mem_cons, List.mem_nil_iff, or_false] at hi
      rcases hi with rfl | rfl <;> assumption
    congr 1
    simp only [Bool.and_eq_true, decide_eq_true_eq]
    omega
  · walk_at "z"
    refine z_allM (as := [p.1, p.2]) (f := fun _ => true) g ?_
    walk_at "z"
    refine ⟨?_, gr⟩
    have : ((p.1 : Int) == (p.2 : Int)) = false := by
      rw [← Bool.not_eq_true, beq_iff_eq]; omega
    show D.bl (!((p.1 : Int) == (p.2 : Int))) = _
    rw [this]; rfl
/-- the pairs go on with one another -/
def trC (ps : NPs) : Bool := ps.all fun p => (ps.filter fun q => q.1 == p.2).all fun q => ps.contains (p.1, q.2)
theorem trC_iff {ps : NPs} : trC ps = true ↔ ∀ a b c, (a, b) ∈ ps → (b, c) ∈ ps → (a, c) ∈ ps := by
  unfold trC
  simp only [List.all_eq_true, List.mem_filter, beq_iff_eq, List.contains_iff_mem, Prod.forall]
  constructor
  · intro h a b c h1 h2
    exact h a b h1 b c ⟨h2, rfl⟩
  · rintro h a b h1 c d ⟨h2, rfl⟩
    exact h a _ d h1 h2
/-- pairs below n, ascending -/
structure PrOk (n : Nat) (ps : NPs) : Prop where
  lt : ∀ p ∈ ps, p.1 < n ∧ p.2 < n ∧ p.1 ≠ p.2
  asc : ps.Pairwise fun p q => p.1 < q.1 ∨ p.1 = q.1 ∧ p.2 < q.2
theorem lex_P {p q : Nat × Nat} (h : p.1 < q.1 ∨ p.1 = q.1 ∧ p.2 < q.2) : HT.lexLt [(p.1 : Int), (p.2 : Int)] [(q.1 : Int), (q.2 : Int)] = true := by
  simp only [HT.lexLt]
  rcases h with h | ⟨h1, h2⟩
  · rw [if_neg (by omega)]; simp only [decide_eq_true_eq]; omega
  · rw [if_pos (by omega), if_neg (by omega)]; simp only [decide_eq_true_eq]; omega
theorem pw_zip {α : Type} {R : α → α → Prop} : ∀ {l : List α}, l.Pairwise R → ∀ p ∈ l.zip l.tail, R p.1 p.2
  | [], _, p, h => by cases h
  | [a], _, p, h => by cases h
  | a :: b :: l, h, p, hp => by
    simp only [List.tail_cons, List.zip_cons_cons, List.mem_cons] at hp
    obtain ⟨h1, h2⟩ := List.pairwise_cons.mp h
    rcases hp with rfl | hp
    · exact h1 b (by simp)
    · exact pw_zip (l := b :: l) h2 p (by simpa using hp)
theorem zip_map2 {α : Type} (e : α → D) (l m : List α) : (((l.map e).zip (m.map e)).map fun p => D.tup [p.1, p.2]) = (l.zip m).map fun p => .tup [e p.1, e p.2] := by
  rw [List.zip_map, List.map_map]; rfl
theorem z_zipT {xs ys : List D} {P : Itm → Prop} (q : P (.fix ((xs.zip ys).map fun p => D.tup [p.1, p.2]))) : wt (itZip [.tup xs, .tup ys] S) P := ⟨_, rfl, q⟩
theorem s_are_pairs {n : Nat} {ps : NPs} (P : PrOk n ps) (hl : ps.length ≤ 1000) : wp (callZ bs (k + 4) i_are_pairs [.int (n : Nat), dPs ps]) S (fun d S' => d = .bl (trC ps) ∧ Gr S S') noX := by
  refine call_go (b := b_are_pairs) rfl rfl rfl ?_
  unfold b_are_pairs dPs
  walk_at "z0"
  refine ws_cut (fun σ S1 => σ = [some (.int (n : Nat)), some (.tup (ps.map dP)), none, none, none, none] ∧ Gr S S1) ?_ ?_
  · walk_at "z"
    refine lc_F1 (as := ps) (e := dP) (fun _ => .bl true) (szl (by omega)) (fun p hp S1 gr => ?_) (fun S1 gr hn g => ?_)
    · walk_at "z"
      obtain ⟨h1, h2, h3⟩ := P.lt p hp
      refine (s_is_pair h1 h2 h3).use ?_
      rintro d S2 ⟨rfl, g2⟩
      exact ⟨rfl, g2⟩
    · walk_at "z"
      refine z_allM (as := ps) (f := fun _ => true) g ?_
      rw [List.all_eq_true.mpr (fun _ _ => rfl)]
      walk_at "z"
      exact ⟨by trivial, gr⟩
  rintro σ S1 ⟨rfl, gr1⟩
  refine ws_cut (fun σ S2 => σ = [some (.int (n : Nat)), some (.tup (ps.map dP)), none, none, none, none] ∧ Gr S S2) ?_ ?_
  · walk_at "z"
    rw [show cutD (ps.map dP) (some 1) none = ps.tail.map dP by rw [cut_one, List.map_tail]]
    rw [zip_map2]
    refine lc_F1 (as := ps.zip ps.tail) (fun _ => .bl true) (szl (by rw [List.length_zip]; omega)) (fun p hp S2 gr => ?_) (fun S2 gr hn g => ?_)
    · walk_at "z"
      exact ⟨by
        show D.bl (HT.lexLt [(p.1.1 : Int), (p.1.2 : Int)] [(p.2.1 : Int), (p.2.2 : Int)]) = _
        rw [lex_P (pw_zip P.asc p hp)], Gx.refl _ _⟩
    · walk_at "z"
      refine z_allM (as := ps.zip ps.tail) (f := fun _ => true) g ?_
      rw [List.all_eq_true.mpr (fun _ _ => rfl)]
      walk_at "z"
      exact ⟨by trivial, gr1.trans gr⟩
  rintro σ S2 ⟨rfl, gr2⟩
  walk_at "z"
  refine for_F (as := ps) (e := dP) (fun i σ S3 => ∃ o2 o3 : Option D, σ = [some (.int (n : Nat)), some (.tup (ps.map dP)), o2, o3, none, none] ∧ Gr S S3 ∧ ∀ p ∈ ps.take i, ((ps.filter fun q => q.1 == p.2).all fun q => ps.contains (p.1, q.2)) = true) ⟨_, _, rfl, gr2, by simp⟩ ?_ ?_
  · rintro i p σ S3 hp ⟨o2, o3, rfl, gr3, hI⟩
    walk_at "z"
    refine lc_F (as := ps) (e := dP) (fun q => q.1 == p.2) (fun q => .bl (ps.contains (p.1, q.2))) (szl (by omega)) (fun q hq S4 gr4 => ?_) (fun S4 gr4 hn4 g4 => ?_)
    · walk_at "z"
      refine ⟨?_, Gx.refl _ _, fun _ => ?_⟩
      · show ((q.1 : Int) == (p.2 : Int)) = (q.1 == p.2)
        rw [Bool.eq_iff_iff, beq_iff_eq, beq_iff_eq]; omega
      · walk_at "z"
        refine z_in (pd_P (p.1, q.2)) pd_Ps rfl ?_
        rw [any_P]
        exact ⟨rfl, Gx.refl _ _⟩
    · walk_at "z"
      refine z_allM g4 ?_
      walk_at "z"
      have hmem : p ∈ ps := List.mem_of_getElem? hp
      refine wQ_c (fun h => ?_) (fun h => ?_)
      · walk_at "z"
        refine ⟨?_, gr3.trans gr4⟩
        congr 1
        symm
        rw [← Bool.not_eq_true]
        intro ht
        have h2 := List.all_eq_true.mp ht p hmem
        rw [h2] at h
        cases h
      · walk_at "z"
        refine ⟨_, _, rfl, gr3.trans gr4, fun q hq => ?_⟩
        rw [List.take_succ, hp] at hq
        rcases List.mem_append.mp hq with hq | hq
        · exact hI q hq
        · simp only [Option.toList_some, List.mem_singleton] at hq
          subst hq
          simpa using h
  · rintro σ S3 ⟨o2, o3, rfl, gr3, hI⟩
    rw [List.take_length] at hI
    walk_at "z"
    refine ⟨?_, gr3⟩
    congr 1
    symm
    exact List.all_eq_true.mpr hI
theorem s_rows_along {n : Nat} {ps : NPs} (hn : n ≤ 5) (hl : ps.length ≤ 1000) : ∀ (m : Nat) (row : List Nat) (S : Sto) (k : Nat), row.length + m = n →
    wp (callZ bs (k + m + 1) i_rows_along [.int (n : Nat), dPs ps, dR row]) S (fun d S' => ∃ a, d = .loc a ∧ S'.get a = some (.lst ((rowsA n ps m row).map dR)) ∧ Gr S S' ∧ S.n ≤ a) noX
  | 0, row, S, k, hm => by
    refine call_go (b := b_rows_along) rfl rfl rfl ?_
    unfold b_rows_along
    walk_at "z0"
    change ws _ [some (.int (n : Nat)), some (.tup (ps.map dP)), some (.xtp (row.map dX)), none, none, none, none] S _
    walk_at "z"
    try simp only [asT]
    walk_at "z"
    rw [List.length_map]
    refine wQ_t (by show ((row.length : Int) == (n : Int)) = true; rw [beq_iff_eq]; omega) ?_
    walk_at "z"
    exact ⟨_, rfl, Sto.get_push _ _, (Gx.refl _ _).push _, Nat.le_refl _⟩
  | m + 1, row, S, k, hm => by
    refine call_go (b := b_rows_along) rfl rfl rfl ?_
    unfold b_rows_along
    walk_at "z0"
    change ws _ [some (.int (n : Nat)), some (.tup (ps.map dP)), some (.xtp (row.map dX)), none, none, none, none] S _
    walk_at "z"
    try simp only [asT]
    walk_at "z"
    rw [List.length_map]
    refine wQ_f (by show ((row.length : Int) == (n : Int)) = false; rw [← Bool.not_eq_true, beq_iff_eq]; omega) ?_
    walk_at "z"
    refine for_rng (fun i σ S1 => ∃ o4 : Option D, σ = [some (.int (n : Nat)), some (.tup (ps.map dP)), some (.xtp (row.map dX)), some (.loc S.n), o4, none, none] ∧ Gr S S1 ∧ S1.get S.n = some (.lst (((List.range i).flatMap fun x => if canGo ps row x = true then rowsA n ps m (row ++ [x]) else []).map dR))) ⟨_, rfl, (Gx.refl _ _).push _, by rw [Sto.get_push]; rfl⟩ ?_ ?_
    · rintro i σ S1 hi ⟨o4, rfl, gr1, g1⟩
      have hi' : i < n := by simpa using hi
      have hfl := flatB (m := n ^ m) (f := fun x => if canGo ps row x = true then rowsA n ps m (row ++ [x]) else []) (List.range i) (fun x _ => by
        split
        · exact rows_len n ps m _
        · simp)
      rw [List.length_range] at hfl
      have hp5 := pow5 hn (show m ≤ 5 by omega)
      have hmul := Nat.mul_le_mul (show i ≤ 5 by omega) hp5
      walk_at "z"
      try simp only [asT, Int.zero_add]
      refine z_notIn (pd_X i) pd_Xs rfl ?_
      rw [any_X]
      walk_at "z"
      refine wQ_c (fun h => ?_) (fun h => ?_)
      · walk_at "z"
        refine lc_F (as := ps) (e := dP) (fun q => q.2 == i) (fun q => .bl (row.contains q.1)) (szl (by omega)) (fun q hq S4 gr4 => ?_) (fun S4 gr4 hn4 g4 => ?_)
        · walk_at "z"
          refine ⟨?_, Gx.refl _ _, fun _ => ?_⟩
          · show ((q.2 : Int) == (i : Int)) = (q.2 == i)
            rw [Bool.eq_iff_iff, beq_iff_eq, beq_iff_eq]; omega
          · walk_at "z"
            try simp only [asT]
            refine z_in (pd_X q.1) pd_Xs rfl ?_
            rw [any_X]
            exact ⟨rfl, Gx.refl _ _⟩
        · walk_at "z"
          refine z_allM g4 ?_
          walk_at "z"
          have hc : canGo ps row i = ((ps.filter fun q => q.2 == i).all fun q => row.contains q.1) := by
            unfold canGo
            rw [h, Bool.true_and, List.all_filter]
          have g5 := gr4.get g1
          refine wQ_c (fun h2 => ?_) (fun h2 => ?_)
          · walk_at "z"
            refine w_chkL g5 ?_
            walk_at "z"
            try simp only [asT]
            walk_at "z"
            refine ⟨szl (by rw [List.length_append, List.length_map, List.length_singleton]; omega), ?_⟩
            walk_at "z"
            rw [show row.map dX ++ [D.int (i : Nat)] = (row ++ [i]).map dX by rw [List.map_append]; rfl]
            refine (s_rows_along hn hl m (row ++ [i]) S4 k (by rw [List.length_append, List.length_singleton]; omega)).use ?_
            rintro d S5 ⟨a, rfl, ga, gr5, hna⟩
            walk_at "z"
            have g6 := gr5.get g5
            have hr1 := rows_len n ps m (row ++ [i])
            refine z_ext g6 ga (szl (by rw [List.length_map, List.length_map]; omega)) ?_
            walk_at "z"
            refine ⟨_, rfl, ((gr1.trans gr4).trans gr5).set (.inr (Nat.le_refl _)) (Sto.lt_of g6) _, ?_⟩
            rw [Sto.get_set g6, List.range_succ, List.flatMap_append, List.flatMap_cons, List.flatMap_nil, hc, h2]
            simp
          · walk_at "z"
            refine ⟨_, rfl, gr1.trans gr4, ?_⟩
            rw [g5, List.range_succ, List.flatMap_append, List.flatMap_cons, List.flatMap_nil, hc, h2]
            simp
      · walk_at "z"
        refine ⟨_, rfl, gr1, ?_⟩
        have hc : canGo ps row i = false := by unfold canGo; rw [h, Bool.false_and]
        rw [g1, List.range_succ, List.flatMap_append, List.flatMap_cons, List.flatMap_nil, hc]
        simp
    · rintro σ S1 ⟨o4, rfl, gr1, g1⟩
      walk_at "z"
      exact ⟨_, rfl, by simpa [rowsA] using g1, gr1, Nat.le_refl _⟩
theorem s_common_pairs {r o : List Nat} (hr : r.length ≤ 10) (ho : ∀ x ∈ r, x ∈ o) : wp (callZ bs (k + 1) i_common_pairs [dR r, dR o]) S (fun d S' => ∃ a, d = .loc a ∧ S'.get a = some (.lst ((comm r o).map dP)) ∧ Gr S S' ∧ S.n ≤ a) noX := by
  refine call_go (b := b_common_pairs) rfl rfl rfl ?_
  unfold b_common_pairs
  walk_at "z0"
  change ws _ [some (.xtp (r.map dX)), some (.xtp (o.map dX)), none, none, none, none] S _
  walk_at "z"
  try simp only [asT]
  walk_at "z"
  refine for_E (as := r) (e := dX) (fun i σ S1 => ∃ o3 o4 : Option D, σ = [some (.xtp (r.map dX)), some (.xtp (o.map dX)), some (.loc S.n), o3, o4, none] ∧ Gr S S1 ∧ S1.get S.n = some (.lst (((r.zipIdx.take i).flatMap fun p => ((r.drop (p.2 + 1)).filter fun f => decide (o.idxOf p.1 < o.idxOf f)).map fun f => (p.1, f)).map dP))) ⟨_, _, rfl, (Gx.refl _ _).push _, by rw [Sto.get_push]; rfl⟩ ?_ ?_
  · rintro i x σ S1 hx ⟨o3, o4, rfl, gr1, g1⟩
    have hxr : x ∈ r := List.mem_of_getElem? hx
    have htk : r.zipIdx.take (i + 1) = r.zipIdx.take i ++ [(x, i)] := by rw [List.take_succ, List.getElem?_zipIdx, hx]; simp
    have hB := flatB (m := 10) (f := fun p : Nat × Nat => ((r.drop (p.2 + 1)).filter fun f => decide (o.idxOf p.1 < o.idxOf f)).map fun f => (p.1, f)) (r.zipIdx.take i) (fun p _ => by
      rw [List.length_map]
      refine Nat.le_trans (List.length_filter_le _ _) ?_
      rw [List.length_drop]; omega)
    have hB2 : (r.zipIdx.take i).length ≤ 10 := by rw [List.length_take, List.length_zipIdx]; omega
    walk_at "z"
    refine w_chkL g1 ?_
    walk_at "z"
    try simp only [asT]
    walk_at "z"
    rw [show (0 + (i : Int) + 1) = ((i + 1 : Nat) : Int) by omega, cut_from, ← List.map_drop]
    refine lc_F (as := r.drop (i + 1)) (e := dX) (fun f => decide (o.idxOf x < o.idxOf f)) (fun f => dP (x, f)) (szl (by rw [List.length_drop]; omega)) (fun f hf S2 gr2 => ?_) (fun S2 gr2 hn2 g2 => ?_)
    · have hfr : f ∈ r := List.mem_of_mem_drop hf
      walk_at "z"
      rw [ints_X o]
      refine z_idxT (mem_X (ho x hxr)) ?_
      walk_at "z"
      refine z_idxT (mem_X (ho f hfr)) ?_
      rw [idx_X, idx_X]
      walk_at "z"
      refine ⟨?_, Gx.refl _ _, fun _ => ?_⟩
      · rw [Bool.eq_iff_iff, decide_eq_true_eq, decide_eq_true_eq]; omega
      · walk_at "z"
        exact ⟨rfl, Gx.refl _ _⟩
    · walk_at "z"
      have e : (((r.drop (i + 1)).filter fun f => decide (o.idxOf x < o.idxOf f)).map fun f => dP (x, f)) = ((((r.drop (i + 1)).filter fun f => decide (o.idxOf x < o.idxOf f)).map fun f => (x, f)).map dP) := by rw [List.map_map]; rfl
      rw [e] at g2
      have g3 := gr2.get g1
      have hC : (((r.drop (i + 1)).filter fun f => decide (o.idxOf x < o.idxOf f)).map fun f => (x, f)).length ≤ 10 := by
        rw [List.length_map]
        refine Nat.le_trans (List.length_filter_le _ _) ?_
        rw [List.length_drop]; omega
      refine z_ext g3 g2 (szl (by rw [List.length_map, List.length_map]; omega)) ?_
      walk_at "z"
      refine ⟨_, _, rfl, (gr1.trans gr2).set (.inr (Nat.le_refl _)) (Sto.lt_of g3) _, ?_⟩
      rw [Sto.get_set g3, htk, List.flatMap_append, List.map_append]
      simp
  · rintro σ S1 ⟨o3, o4, rfl, gr1, g1⟩
    rw [← List.length_zipIdx (l := r) (i := 0), List.take_length] at g1
    walk_at "z"
    exact ⟨_, rfl, g1, gr1, Nat.le_refl _⟩
theorem s_two_rows {n : Nat} {ps : NPs} (hn : n ≤ 5) (hl : ps.length ≤ 1000) (P : PoO n ps) : wp (callZ bs (k + 7) i_two_rows [.int (n : Nat), dPs ps]) S (fun d S' => ∃ r o, d = .tup [dR r, dR o] ∧ Lx n ps r ∧ Lx n ps o ∧ (comm r o).length = ps.length ∧ Gr S S') noX := by
  obtain ⟨r0, o0, m1, m2, e0⟩ := two_rows_ex hn P
  refine call_go (b := b_two_rows) rfl rfl rfl ?_
  unfold b_two_rows
  walk_at "z0"
  change ws _ [some (.int (n : Nat)), some (.tup (ps.map dP)), none, none, none] S _
  refine ws_cut (fun σ S1 => ∃ a, σ = [some (.int (n : Nat)), some (.tup (ps.map dP)), some (.loc a), none, none] ∧ Gr S S1 ∧ S1.get a = some (.lst ((rowsA n ps n []).map dR))) ?_ ?_
  · walk_at "z"
    have h := s_rows_along hn hl n [] S (k + 5 - n) (by simp)
    rw [show k + 5 - n + n + 1 = k + 6 by omega] at h
    refine h.use ?_
    rintro d S1 ⟨a, rfl, ga, gr1, _⟩
    walk_at "z"
    exact ⟨a, by trivial, gr1, ga⟩
  rintro σ S1 ⟨a, rfl, gr1, g1⟩
  walk_at "z"
  refine z_itL g1 ?_
  refine for_L (as := rowsA n ps n []) (e := dR) (fun i σ S2 => ∃ o3 o4 : Option D, σ = [some (.int (n : Nat)), some (.tup (ps.map dP)), some (.loc a), o3, o4] ∧ Gr S1 S2 ∧ ∀ r ∈ (rowsA n ps n []).take i, ∀ o ∈ rowsA n ps n [], (comm r o).length ≠ ps.length) (fun i σ S2 hh => by obtain ⟨_, _, _, gr, _⟩ := hh; exact gr.get g1) ⟨_, _, rfl, Gx.refl _ _, by simp⟩ ?_ ?_
  · rintro i r σ S2 hr ⟨o3, o4, rfl, gr2, hI⟩
    have hrm : r ∈ rowsA n ps n [] := List.mem_of_getElem? hr
    have Lr := rows_lx P hrm
    have g2 := gr2.get g1
    walk_at "z"
    refine z_itL g2 ?_
    refine for_L (as := rowsA n ps n []) (e := dR) (fun j σ S3 => ∃ o4 : Option D, σ = [some (.int (n : Nat)), some (.tup (ps.map dP)), some (.loc a), some (dR r), o4] ∧ Gr S1 S3 ∧ ∀ o ∈ (rowsA n ps n []).take j, (comm r o).length ≠ ps.length) (fun i σ S2 hh => by obtain ⟨_, _, gr, _⟩ := hh; exact gr.get g1) ⟨_, rfl, gr2, by simp⟩ ?_ ?_
    · rintro j o σ S3 ho ⟨o4, rfl, gr3, hJ⟩
      have hom : o ∈ rowsA n ps n [] := List.mem_of_getElem? ho
      have Lo := rows_lx P hom
      walk_at "z"
      refine (s_common_pairs (k := k + 5) (by rw [Lr.len]; omega) (fun x hx => (Lo.mem x).mpr ((Lr.mem x).mp hx))).use ?_
      rintro d S4 ⟨b, rfl, gb, gr4, _⟩
      walk_at "z"
      refine z_lenL gb ?_
      walk_at "z"
      rw [List.length_map, List.length_map]
      refine wQ_c (fun q => ?_) (fun q => ?_)
      · have q' : (comm r o).length = ps.length := by
          have : (((comm r o).length : Int) == (ps.length : Int)) = true := q
          rw [beq_iff_eq] at this
          omega
        walk_at "z"
        exact ⟨r, o, rfl, Lr, Lo, q', (gr1.trans gr3).trans gr4⟩
      · have q' : (comm r o).length ≠ ps.length := by
          have : (((comm r o).length : Int) == (ps.length : Int)) = false := q
          rw [← Bool.not_eq_true, beq_iff_eq] at this
          omega
        walk_at "z"
        refine ⟨_, rfl, gr3.trans gr4, fun o' ho' => ?_⟩
        rw [List.take_succ, ho] at ho'
        rcases List.mem_append.mp ho' with ho' | ho'
        · exact hJ o' ho'
        · simp only [Option.toList_some, List.mem_singleton] at ho'
          subst ho'
          exact q'
    · rintro σ S3 ⟨o4, rfl, gr3, hJ⟩
      rw [List.take_length] at hJ
      walk_at "z"
      refine ⟨_, _, rfl, gr3, fun r' hr' => ?_⟩
      rw [List.take_succ, hr] at hr'
      rcases List.mem_append.mp hr' with hr' | hr'
      · exact hI r' hr'
      · simp only [Option.toList_some, List.mem_singleton] at hr'
        subst hr'
        exact hJ
  · rintro σ S2 ⟨o3, o4, rfl, gr2, hI⟩
    rw [List.take_length] at hI
    exact absurd e0 (hI r0 m1 o0 m2)
/-- the things that are told back -/
def bk1 (n : Nat) (r o : List Nat) (x : Nat) : Thg := (((r.idxOf x : Nat), (r.idxOf x : Nat)), some (2 * (n : Int) - (o.idxOf x : Nat), 2 * (n : Int) - (o.idxOf x : Nat)))
def bkT (n : Nat) (r o : List Nat) : List Thg := (List.range n).map (bk1 n r o)
theorem s_told_back {n : Nat} {ps : NPs} (hn : n ≤ 5) (hl : ps.length ≤ 1000) (P : PrOk n ps) (T : trC ps = true) : wp (callZ bs (k + 8) i_told_back [.int (n : Nat), dPs ps]) S (fun d S' => ∃ r o, d = dHist (bkT n r o, []) ∧ Lx n ps r ∧ Lx n ps o ∧ (comm r o).length = ps.length ∧ Gr S S') noX := by
  have Po : PoO n ps := ⟨fun a b h => ⟨(P.lt _ h).1, (P.lt _ h).2.1⟩, fun a b h => (P.lt _ h).2.2, trC_iff.mp T, P.asc.imp fun {p q} h e => by subst e; rcases h with h | ⟨_, h⟩ <;> omega⟩
  refine call_go (b := b_told_back) rfl rfl rfl ?_
  unfold b_told_back
  walk_at "z0"
  refine ws_cut (fun σ S1 => σ = [some (.int (n : Nat)), some (dPs ps), none, none, none, none, none, none] ∧ Gr S S1) ?_ ?_
  · walk_at "z"
    refine s_is_between.use ?_
    rintro d S1 ⟨rfl, rfl⟩
    walk_at "z"
    refine wQ_f (by simp only [Bool.not_eq_eq_eq_not, Bool.not_false, Bool.and_eq_true, decide_eq_true_eq]; omega) ?_
    walk_at "z"
    exact ⟨by trivial, Gx.refl _ _⟩
  rintro σ S1 ⟨rfl, gr1⟩
  refine ws_cut (fun σ S2 => σ = [some (.int (n : Nat)), some (dPs ps), none, none, none, none, none, none] ∧ Gr S S2) ?_ ?_
  · walk_at "z"
    refine (s_are_pairs (k := k + 3) P hl).use ?_
    rintro d S2 ⟨rfl, gr2⟩
    rw [T]
    walk_at "z"
    exact ⟨by trivial, gr1.trans gr2⟩
  rintro σ S2 ⟨rfl, gr2⟩
  refine ws_cut (fun σ S3 => ∃ r o, σ = [some (.int (n : Nat)), some (dPs ps), none, none, some (dR r), some (dR o), none, none] ∧ Lx n ps r ∧ Lx n ps o ∧ (comm r o).length = ps.length ∧ Gr S S3) ?_ ?_
  · walk_at "z"
    refine (s_two_rows hn hl Po).use ?_
    rintro d S3 ⟨r, o, rfl, Lr, Lo, e, gr3⟩
    walk_at "z"
    exact ⟨r, o, rfl, Lr, Lo, e, gr2.trans gr3⟩
  rintro σ S3 ⟨r, o, rfl, Lr, Lo, e, gr3⟩
  walk_at "z"
  refine for_rng (fun i σ S4 => ∃ o3 o6 o7 : Option D, σ = [some (.int (n : Nat)), some (dPs ps), some (.loc S3.n), o3, some (dR r), some (dR o), o6, o7] ∧ Gr S S4 ∧ S4.get S3.n = some (.lst (((List.range i).map (bk1 n r o)).map dThing))) ⟨_, _, _, rfl, gr3.push _, by rw [Sto.get_push]; rfl⟩ ?_ ?_
  · rintro i σ S4 hi ⟨o3, o6, o7, rfl, gr4, g4⟩
    have hi' : i < n := by simpa using hi
    walk_at "z"
    simp only [Int.zero_add]
    unfold dR
    walk_at "z"
    rw [ints_X r, ints_X o]
    refine z_idxT (mem_X ((Lr.mem i).mpr hi')) ?_
    walk_at "z"
    refine z_idxT (mem_X ((Lo.mem i).mpr hi')) ?_
    rw [idx_X, idx_X]
    walk_at "z"
    refine w_chkL g4 ?_
    walk_at "z"
    refine z_app g4 (Nat.lt_of_le_of_lt (m := 10) (by rw [List.length_map, List.length_map, List.length_range]; omega) (by decide)) ?_
    walk_at "z"
    refine ⟨_, _, _, by rw [← ints_X, ← ints_X], gr4.set (.inr gr3.le) (Sto.lt_of g4) _, ?_⟩
    rw [Sto.get_set g4, List.range_succ, List.map_append, List.map_append]
    rfl
  · rintro σ S4 ⟨o3, o6, o7, rfl, gr4, g4⟩
    walk_at "z"
    refine z_tupL g4 ?_
    walk_at "z"
    exact ⟨r, o, rfl, Lr, Lo, e, gr4⟩
/-- pairs that do not go on are refused -/
theorem s_told_back_no {n : Nat} {ps : NPs} {E : Xc → Sto → Prop} {Q : D → Sto → Prop} (hn : n ≤ 5) (hl : ps.length ≤ 1000) (P : PrOk n ps) (T : trC ps = false) (q : ∀ S', Gr S S' → E ⟨"BadPairs", ["given"], [dPs ps]⟩ S') : wp (callZ bs (k + 8) i_told_back [.int (n : Nat), dPs ps]) S Q E := by
  refine call_go (b := b_told_back) rfl rfl rfl ?_
  unfold b_told_back
  walk_at "z0"
  refine ws_cut (fun σ S1 => σ = [some (.int (n : Nat)), some (dPs ps), none, none, none, none, none, none] ∧ Gr S S1) ?_ ?_
  · walk_at "z"
    refine s_is_between.use ?_
    rintro d S1 ⟨rfl, rfl⟩
    walk_at "z"
    refine wQ_f (by simp only [Bool.not_eq_eq_eq_not, Bool.not_false, Bool.and_eq_true, decide_eq_true_eq]; omega) ?_
    walk_at "z"
    exact ⟨by trivial, Gx.refl _ _⟩
  rintro σ S1 ⟨rfl, gr1⟩
  walk_at "z"
  refine (s_are_pairs (k := k + 3) P hl).use ?_
  rintro d S2 ⟨rfl, gr2⟩
  rw [T]
  walk_at "z"
  exact ⟨rfl, q _ (gr1.trans gr2)⟩
end
end L2.Z.Lw

set_option Elab.async false
set_option linter.all false
set_option maxRecDepth 100000
set_option maxHeartbeats 4000000
/-! Q39: the law's side of k39 -/
namespace L2.Z.Lw
open PySem PySem.Spec PyProof.Rows
local macro_rules | `(tactic| walk_at "z1") => `(tactic| (first
  | ((with_reducible refine z_var ?_); refine ⟨_, rfl, ?_⟩)
  | with_reducible refine w_C ?_
  | with_reducible refine w_cons ?_
  | with_reducible refine w_nil ?_
  | with_reducible refine w_call ?_
  | with_reducible refine w_e2 ?_
  | with_reducible refine w_e1 ?_
  | with_reducible refine w_cb ?_
  | ((with_reducible refine z_mod ?_ ?_); (first | omega | (simp only [List.length_map, List.length_append, List.length_range]; omega)))
  | ((with_reducible refine z_div ?_ ?_ ?_); (omega); (omega))
  | ((with_reducible refine z_mul ?_ ?_); (first | (left; omega) | (right; omega)))
  | ((with_reducible refine z_pow ?_ ?_); (decide))
  | with_reducible refine z_fld (by kernel_rfl) (by kernel_rfl) ?_
  | with_reducible refine w_d0 ?_
  | with_reducible refine w_co ?_
  | with_reducible refine w_xtp ?_
  | with_reducible refine w_idx ?_
  | with_reducible refine w_chkXt ?_
  | with_reducible refine w_dc ?_
  | with_reducible refine w_star ?_
  | with_reducible refine w_irng3 ?_
  | with_reducible refine z_kget ?_
  | with_reducible refine z_revT ?_
  | with_reducible refine z_max3 ?_
  | ((with_reducible refine z_wo ?_); refine ⟨_, _, rfl, ?_⟩)
  | with_reducible refine w_tV ?_
  | ((with_reducible refine z_itR ?_ ?_); (first | omega | (simp only [List.length_map, List.length_append, List.length_range]; omega)))
  | ((with_reducible refine z_itR2 ?_ ?_); (omega))
  | ((with_reducible refine z_wt ?_); refine ⟨_, rfl, ?_⟩)
  | with_reducible refine ws_seq ?_
  | ((with_reducible refine sq_nx ?_); try simp only [List.set_cons_zero, List.set_cons_succ])
  | with_reducible refine sq_rt ?_
  | with_reducible refine sq_xc ?_
  | with_reducible refine fz_rt ?_
  | with_reducible refine fz_nx ?_
  | with_reducible refine fz_xc ?_
  | ((with_reducible refine lp_nx ?_); try simp only [List.set_cons_zero, List.set_cons_succ])
  | with_reducible refine lp_rt ?_
  | with_reducible refine lp_xc ?_
  | with_reducible refine lp_bk ?_
  | with_reducible refine lp_ct ?_
  | with_reducible refine ws_if ?_
  | with_reducible refine ws_set ?_
  | with_reducible refine ws_ret ?_
  | with_reducible refine ws_retN ?_
  | with_reducible refine ws_nil ?_
  | with_reducible refine ws_drop ?_
  | with_reducible refine w_tN ?_
  | with_reducible refine w_tA ?_
  | with_reducible refine w_tO ?_
  | with_reducible refine w_tY ?_
  | with_reducible refine wQ_t rfl ?_
  | with_reducible refine wQ_f rfl ?_
  | with_reducible refine wB_t rfl ?_
  | with_reducible refine wB_f rfl ?_
  | with_reducible refine w_tup ?_
  | with_reducible refine w_lst ?_
  | ((with_reducible refine z_wz ?_ ?_); (exact rfl))
  | with_reducible refine w_and ?_
  | with_reducible refine w_or ?_
  | with_reducible refine w_not ?_
  | with_reducible refine w_if ?_
  | with_reducible refine w_chain ?_
  | with_reducible refine ws_un ?_
  | with_reducible refine ws_par ?_
  | with_reducible refine ws_par3 ?_
  | with_reducible refine ws_sub ?_
  | with_reducible refine ws_raise ?_
  | with_reducible refine ws_for ?_
  | with_reducible refine w_lc ?_
  | with_reducible refine w_lc2 ?_
  | with_reducible refine w_isq ?_
  | with_reducible refine w_irng1 ?_
  | with_reducible refine w_irng2 ?_
  | with_reducible refine w_ienm ?_
  | with_reducible refine w_ienmK ?_
  | with_reducible refine w_izp ?_
  | with_reducible refine w_sl ?_
  | with_reducible refine w_oN ?_
  | with_reducible refine w_oS ?_
  | with_reducible refine w_m ?_
  | ((with_reducible refine w_lam ?_); try simp only [List.replicate_succ, List.replicate_zero, Nat.reduceSub])
  | ((with_reducible refine sj_nx ?_); try simp only [List.set_cons_zero, List.set_cons_succ])
  | with_reducible refine sj_rt ?_
  | with_reducible refine sj_xc ?_
  | with_reducible refine sj_bk ?_
  | with_reducible refine sj_ct ?_
  | with_reducible refine ws_try ?_
  | with_reducible refine tr_nx ?_
  | with_reducible refine tr_rt ?_
  | with_reducible refine tr_xc ?_
  | with_reducible refine w_dict ?_
  | with_reducible refine w_pcons ?_
  | with_reducible refine w_pnil ?_
  | with_reducible refine rh_nx ?_
  | with_reducible refine rh_rt ?_
  | fail "z"))
local macro_rules | `(tactic| walk_at "z") => `(tactic| ((repeat' (walk_at "z1")); try dsimp only))
local macro_rules | `(tactic| walk_at "zF") => `(tactic| (refine wQ_f (by simp only [decide_eq_false_iff_not, decide_eq_true_eq, List.length_map, List.length_append, Int.not_lt, Bool.not_eq_eq_eq_not, Bool.not_true, Bool.not_false]; omega) ?_; walk_at "z"))
local macro_rules | `(tactic| walk_at "zT") => `(tactic| (refine wQ_t (by simp only [decide_eq_false_iff_not, decide_eq_true_eq, List.length_map, List.length_append, Int.not_lt, Bool.not_eq_eq_eq_not, Bool.not_true, Bool.not_false]; omega) ?_; walk_at "z"))
local macro_rules | `(tactic| walk_at "z0") => `(tactic| simp only [List.map_cons, List.map_nil, List.replicate_succ, List.replicate_zero, List.cons_append, List.nil_append, Nat.reduceSub, Nat.sub_self])
local macro_rules | `(tactic| walk_at "zc") => `(tactic| (walk_at "z0"; walk_at "z"))
theorem z_popN {S : Sto} {Q : D → Sto → Prop} {n k : Nat} {xs : List D} {y : D} {i : Int} (g : S.get n = some (.lst xs)) (hi : i = (k : Nat)) (hk : xs[k]? = some y) (q : Q y (S.set n (.lst (xs.eraseIdx k)))) : wo (fPopAt (.loc n) [.int i] S) Q := by
  subst hi
  refine wo_of (S' := S.set n (.lst (xs.eraseIdx k))) ?_ q
  unfold fPopAt
  dsimp only
  rw [g]
  dsimp only
  rw [ixN_nat (List.getElem?_eq_some_iff.mp hk).1]
  dsimp only
  rw [hk]
  rfl
theorem pd_str0 {S : Sto} {n : Nat} {x : Str} (h : PyData.strOk x = true) : toPD n S (.str x) = some (.str x) := by
  cases n <;> simp only [toPD, toPD0, h, if_true]
theorem erase_map {α β : Type} {f : α → β} : ∀ (l : List α) (k : Nat), (l.map f).eraseIdx k = (l.eraseIdx k).map f
  | [], k => by simp
  | x :: l, 0 => by simp
  | x :: l, k + 1 => by simp only [List.map_cons, List.eraseIdx_cons_succ, erase_map l k]
theorem erase_perm {α : Type} : ∀ {l : List α} {k : Nat} (h : k < l.length), (l[k] :: l.eraseIdx k).Perm l
  | x :: l, 0, h => List.Perm.refl _
  | x :: l, k + 1, h => by
    simp only [List.getElem_cons_succ, List.eraseIdx_cons_succ]
    exact (List.Perm.swap _ _ _).trans ((erase_perm (l := l) (k := k) (by simpa using h)).cons x)
/-- so many numbers, some drawn already -/
def Pm (n : Nat) (M L : List Nat) : Prop := (M ++ L).Perm (List.range n)
theorem Pm.step {n k : Nat} {M L : List Nat} {x : Nat} (h : Pm n M L) (hx : L[k]? = some x) : Pm n (M ++ [x]) (L.eraseIdx k) := by
  obtain ⟨hk, rfl⟩ := List.getElem?_eq_some_iff.mp hx
  unfold Pm at h ⊢
  rw [List.append_assoc]
  refine List.Perm.trans (List.Perm.append_left M ?_) h
  exact erase_perm hk
theorem Pm.end_ {n : Nat} {M : List Nat} (h : Pm n M []) : M.Nodup ∧ (∀ x, x ∈ M ↔ x < n) ∧ M.length = n := by
  unfold Pm at h
  rw [List.append_nil] at h
  exact ⟨h.nodup_iff.mpr List.nodup_range, fun x => by rw [h.mem_iff, List.mem_range], by rw [h.length_eq, List.length_range]⟩
theorem Pm.len {n : Nat} {M L : List Nat} (h : Pm n M L) : M.length + L.length = n := by
  have := h.length_eq
  rw [List.length_append, List.length_range] at this
  exact this
/-- the pairs that stand so in both rows -/
def trnL (n : Nat) (M : List Nat) : NPs := (List.range n).flatMap fun i => ((List.range n).filter fun j => decide (i < j) && decide (M.idxOf i < M.idxOf j)).map fun j => (i, j)
abbrev ltP (p q : Nat × Nat) : Prop := p.1 < q.1 ∨ p.1 = q.1 ∧ p.2 < q.2
theorem trnL_ok (n : Nat) (M : List Nat) : PrOk n (trnL n M) := by
  refine ⟨?_, ?_⟩
  · rintro ⟨a, b⟩ h
    unfold trnL at h
    simp only [List.mem_flatMap, List.mem_map, List.mem_filter, List.mem_range, Bool.and_eq_true, decide_eq_true_eq, Prod.mk.injEq] at h
    obtain ⟨i, hi, j, ⟨hj, hij, _⟩, rfl, rfl⟩ := h
    exact ⟨hi, hj, by show i ≠ j; omega⟩
  · unfold trnL
    rw [List.pairwise_flatMap]
    refine ⟨fun i _ => ?_, ?_⟩
    · rw [List.pairwise_map]
      exact (List.pairwise_lt_range.filter _).imp fun h => .inr ⟨rfl, h⟩
    · refine List.pairwise_lt_range.imp fun {i j} h x hx y hy => ?_
      obtain ⟨_, _, rfl⟩ := List.mem_map.mp hx
      obtain ⟨_, _, rfl⟩ := List.mem_map.mp hy
      exact .inl h
theorem trnL_len (n : Nat) (M : List Nat) : (trnL n M).length ≤ n * n := by
  unfold trnL
  have := flatB (m := n) (f := fun i => ((List.range n).filter fun j => decide (i < j) && decide (M.idxOf i < M.idxOf j)).map fun j => (i, j)) (List.range n) (fun i _ => by
    rw [List.length_map]
    refine Nat.le_trans (List.length_filter_le _ _) ?_
    rw [List.length_range]; exact Nat.le_refl _)
  rw [List.length_range] at this
  exact this
def leN (p q : Nat × Nat) : Bool := decide (p.1 < q.1) || (decide (p.1 = q.1) && decide (p.2 ≤ q.2))
def cP (p : Nat × Nat) : IP := ((p.1 : Int), (p.2 : Int))
theorem leP_cP (p q : Nat × Nat) : leP (cP p) (cP q) = leN p q := by
  unfold leP leN cP lexP
  dsimp only
  by_cases h : p.1 = q.1
  · rw [if_pos (by omega), Bool.eq_iff_iff]
    simp only [Bool.not_eq_eq_eq_not, Bool.not_true, decide_eq_false_iff_not, Bool.or_eq_true, Bool.and_eq_true, decide_eq_true_eq]
    omega
  · rw [if_neg (by omega), Bool.eq_iff_iff]
    simp only [Bool.not_eq_eq_eq_not, Bool.not_true, decide_eq_false_iff_not, Bool.or_eq_true, Bool.and_eq_true, decide_eq_true_eq]
    omega
theorem srt_P (ps : NPs) : srt (ps.map dP) = some ((ps.mergeSort leN).map dP) := by
  have e : ∀ l : NPs, l.map dP = (l.map cP).map dIP := fun l => by rw [List.map_map]; rfl
  rw [e, srt_IP, e]
  congr 2
  exact (List.map_mergeSort fun a _ b _ => (leP_cP a b).symm).symm
theorem sorted_ok {n : Nat} {ps : NPs} (h : ∀ p ∈ ps, p.1 < n ∧ p.2 < n ∧ p.1 ≠ p.2) (nd : ps.Nodup) : PrOk n (ps.mergeSort leN) := by
  have pm := List.mergeSort_perm ps leN
  refine ⟨fun p hp => h p (pm.mem_iff.mp hp), ?_⟩
  have s := List.pairwise_mergeSort (le := leN) (fun a b c h1 h2 => by simp only [leN, Bool.or_eq_true, Bool.and_eq_true, decide_eq_true_eq] at *; omega) (fun a b => by simp only [leN, Bool.or_eq_true, Bool.and_eq_true, decide_eq_true_eq]; omega) ps
  have d := pm.nodup_iff.mpr nd
  refine List.Pairwise.imp₂ (fun {p q} (h1 : leN p q = true) (h2 : p ≠ q) => ?_) s d
  simp only [leN, Bool.or_eq_true, Bool.and_eq_true, decide_eq_true_eq] at h1
  rcases h1 with h1 | ⟨h1, h3⟩
  · exact .inl h1
  · refine .inr ⟨h1, ?_⟩
    have : p.2 ≠ q.2 := fun e => h2 (Prod.ext h1 e)
    omega
theorem ren_ok {n : Nat} {ps : NPs} {N : List Nat} (P : PrOk n ps) (nd : N.Nodup) (mem : ∀ x, x ∈ N ↔ x < n) (len : N.length = n) : PrOk n ((ps.map fun p => (N.getD p.1 0, N.getD p.2 0)).mergeSort leN) := by
  have at_ : ∀ i, i < n → ∃ h : i < N.length, N.getD i 0 = N[i] := fun i hi => ⟨by omega, by rw [List.getD_eq_getElem?_getD, List.getElem?_eq_getElem (by omega)]; rfl⟩
  have inj : ∀ i j, i < n → j < n → N.getD i 0 = N.getD j 0 → i = j := fun i j hi hj e => by
    obtain ⟨h1, e1⟩ := at_ i hi
    obtain ⟨h2, e2⟩ := at_ j hj
    rw [e1, e2] at e
    have i1 := nd.idxOf_getElem i h1
    have i2 := nd.idxOf_getElem j h2
    rw [e] at i1
    omega
  refine sorted_ok ?_ ?_
  · intro p hp
    obtain ⟨q, hq, rfl⟩ := List.mem_map.mp hp
    obtain ⟨h1, h2, h3⟩ := P.lt q hq
    obtain ⟨l1, e1⟩ := at_ _ h1
    obtain ⟨l2, e2⟩ := at_ _ h2
    refine ⟨?_, ?_, fun e => h3 (inj _ _ h1 h2 e)⟩
    · show N.getD q.1 0 < n
      rw [e1]; exact (mem _).mp (List.getElem_mem _)
    · show N.getD q.2 0 < n
      rw [e2]; exact (mem _).mp (List.getElem_mem _)
  · unfold List.Nodup
    rw [List.pairwise_map]
    refine List.Pairwise.imp_of_mem (fun {p q} hp hq hlt e => ?_) P.asc
    obtain ⟨h1, h2, _⟩ := P.lt p hp
    obtain ⟨g1, g2, _⟩ := P.lt q hq
    injection e with e1 e2
    have e1 := inj _ _ h1 g1 e1
    have e2 := inj _ _ h2 g2 e2
    rcases hlt with h | ⟨_, h⟩ <;> omega
theorem rg_X (n : Nat) : rgD 0 (n : Nat) = (List.range n).map dX := by
  unfold rgD dX
  rw [show ((n : Int) - 0).toNat = n by omega]
  simp only [Int.zero_add]
theorem at_X {l : List Nat} {i : Nat} (h : i < l.length) : atD (l.map dX) (i : Int) = some (dX (l.getD i 0)) := by
  rw [atD_nat, List.getElem?_map, List.getD_eq_getElem?_getD, List.getElem?_eq_getElem h]; rfl
theorem eqv_nilX (l : List Nat) : PyData.eqv (.list (l.map pX)) (.list []) = l.isEmpty := by
  cases l <;> rfl
theorem pd_Xl {S : Sto} {n : Nat} {l : List Nat} (g : S.get n = some (.lst (l.map dX))) : toPD 40 S (.loc n) = some (.list (l.map pX)) := pd_loc g (toPDs_map (fun p => pd_X p) _)
section
variable {k : Nat} {S : Sto} {z : Ds} {a : Int}
theorem s_lpairs {n : Nat} (w : Dw z a S) (ha : a < 2 ^ 50) (h0 : 0 ≤ a) (hn : n ≤ 5) : wp (callZ bs (k + 3) i__law_pairs [.loc z.st, .int (n : Nat)]) S (fun d S' => ∃ ps, d = dPs ps ∧ PrOk n ps ∧ ps.length ≤ 25 ∧ Dw z (a + 11) S' ∧ Gd z S S') noX := by
  obtain ⟨q1, q2, q3⟩ := w.lt
  have nz : ∀ i, S.n ≤ i → i ∉ [z.st, z.l] := fun i hi hm => by simp only [List.mem_cons, List.mem_nil_iff, or_false] at hm; omega
  refine call_go (b := b__law_pairs) rfl rfl rfl ?_
  unfold b__law_pairs
  walk_at "z0"
  walk_at "z"
  refine z_lstR1 (by omega) ?_
  walk_at "z"
  refine z_lstR1 (by omega) ?_
  rw [rg_X]
  walk_at "z"
  let I1 : List Nat → List Nat → Sto → Prop := fun M L S2 => Pm n M L ∧ Dw z (a + M.length) S2 ∧ Gd z S S2 ∧ S2.get (S.n + 2) = some (.lst [.loc S.n, .loc (S.n + 1)]) ∧ S2.get (S.n + 1) = some (.lst (M.map dX)) ∧ S2.get (S.n + 3) = some (.lst (L.map dX))
  refine ws_while (fun σ S2 => ∃ M L, σ = [some (.loc z.st), some (.int (n : Nat)), some (.loc (S.n + 2)), some (.loc (S.n + 3)), none, none, none, none] ∧ I1 M L S2) (fun σ S2 => match S2.get (S.n + 3) with
    | some (.lst xs) => xs.length
    | _ => 0) ⟨[], List.range n, rfl, ?_⟩ ?_ ?_
  · have e3 : ∀ (S0 : Sto) (o : O), (S0.push o).get S0.n = some o := Sto.get_push
    refine ⟨by unfold Pm; rw [List.nil_append], ?_, ?_, ?_, ?_, ?_⟩
    · exact ((((w.push _).push _).push _).push _).mono (by simp)
    · exact ((((Gx.refl _ _).push _).push _).push _).push _
    · rw [Sto.get_push_lt (by simp)]
      exact Sto.get_push _ _
    · rw [Sto.get_push_lt (by simp), Sto.get_push_lt (by simp)]
      exact Sto.get_push _ _
    · exact Sto.get_push _ _
  · have e3 : ∀ X : Sto, X.n = S.n + 3 → ∀ o, (X.push o).get (S.n + 3) = some o := fun X h o => by rw [← h]; exact Sto.get_push _ _
    rw [e3 _ rfl]
    simp only [List.length_map, List.length_range]
    omega
  · rintro σ S2 ⟨M, L, rfl, pm, w2, g2, er, eb, el⟩
    have hlen := pm.len
    walk_at "z"
    have el' : (S2.push (.lst [])).get (S.n + 3) = some (.lst (L.map dX)) := (Sto.get_push_lt (Sto.lt_of el)).trans el
    have eb' : (S2.push (.lst [])).get (S.n + 1) = some (.lst (M.map dX)) := (Sto.get_push_lt (Sto.lt_of eb)).trans eb
    have er' : (S2.push (.lst [])).get (S.n + 2) = some (.lst [.loc S.n, .loc (S.n + 1)]) := (Sto.get_push_lt (Sto.lt_of er)).trans er
    have w2' := w2.push (.lst [])
    have g2' : Gd z S (S2.push (.lst [])) := g2.push _
    refine z_ne (pd_Xl el') (pd_loc (ps := []) (Sto.get_push _ _) rfl) ?_
    rw [eqv_nilX]
    walk_at "z"
    have hmu : (match S2.get (S.n + 3) with
      | some (.lst xs) => xs.length
      | _ => 0) = L.length := by rw [el]; simp
    rw [hmu]
    generalize S2.push (.lst []) = S3 at el' eb' er' w2' g2' ⊢
    refine wQ_c (fun q => ?_) (fun q => ?_)
    · have hL : 0 < L.length := by cases L <;> simp_all
      walk_at "z"
      refine z_ixL er' rfl ?_
      walk_at "z"
      refine w_chkL eb' ?_
      walk_at "z"
      refine w_chkL el' ?_
      walk_at "z"
      refine z_lenL el' ?_
      walk_at "z"
      rw [List.length_map]
      refine (s_draw w2' (by omega) (by omega) (by omega)).use ?_
      rintro d S4 ⟨v, rfl, v0, v1, w4, g4⟩
      walk_at "z"
      obtain ⟨j, rfl⟩ : ∃ j : Nat, v = j := ⟨v.toNat, by omega⟩
      have hj : j < L.length := by omega
      have el4 := g4.get el' (nz _ (by omega))
      have eb4 := g4.get eb' (nz _ (by omega))
      have er4 := g4.get er' (nz _ (by omega))
      refine z_popN el4 rfl (y := dX L[j]) (by rw [List.getElem?_map, List.getElem?_eq_getElem hj]; rfl) ?_
      walk_at "z"
      have eb5 : (S4.set (S.n + 3) (.lst ((L.map dX).eraseIdx j))).get (S.n + 1) = some (.lst (M.map dX)) := (Sto.get_set_ne (by omega) (Sto.lt_of el4)).trans eb4
      refine z_app eb5 (Nat.lt_of_le_of_lt (m := 10) (by rw [List.length_map]; omega) (by decide)) ?_
      walk_at "z"
      have hl4 := Sto.lt_of el4
      have hb4 := Sto.lt_of eb4
      have e6 : ((S4.set (S.n + 3) (.lst ((L.map dX).eraseIdx j))).set (S.n + 1) (.lst (M.map dX ++ [dX L[j]]))).get (S.n + 3) = some (.lst ((L.eraseIdx j).map dX)) := by
        rw [Sto.get_set_ne (S := S4.set _ _) (by omega) hb4, Sto.get_set el4, erase_map]
      refine ⟨⟨M ++ [L[j]], L.eraseIdx j, by trivial, pm.step (List.getElem?_eq_getElem hj), ?_, ?_, ?_, ?_, e6⟩, ?_⟩
      · refine ((w4.set (i := S.n + 3) (by omega) (by omega) (by omega) hl4).set (i := S.n + 1) (by omega) (by omega) (by omega) hb4).mono ?_
        rw [List.length_append, List.length_singleton]
        omega
      · exact (((g2'.trans g4).set (.inr (by omega)) hl4 _).set (.inr (by omega)) hb4 _)
      · rw [Sto.get_set_ne (S := S4.set _ _) (by omega) hb4, Sto.get_set_ne (by omega) hl4]; exact er4
      · rw [Sto.get_set eb5, List.map_append]; rfl
      · rw [e6]
        simp only [List.length_map]
        rw [List.length_eraseIdx_of_lt hj]
        omega
    · have hL : L = [] := by cases L <;> simp_all
      subst hL
      clear el' el hmu
      obtain ⟨mn, mm, ml⟩ := pm.end_
      rw [ml] at w2'
      walk_at "z"
      have hS3 : S.n + 2 < S3.n := Sto.lt_of er'
      have erP : (S3.push (.lst [])).get (S.n + 2) = some (.lst [.loc S.n, .loc (S.n + 1)]) := (Sto.get_push_lt (Sto.lt_of er')).trans er'
      have ebP : (S3.push (.lst [])).get (S.n + 1) = some (.lst (M.map dX)) := (Sto.get_push_lt (Sto.lt_of eb')).trans eb'
      refine for_rng (fun i σ S6 => ∃ o5 o6 : Option D, σ = [some (.loc z.st), some (.int (n : Nat)), some (.loc (S.n + 2)), some (.loc (S.n + 3)), some (.loc S3.n), o5, o6, none] ∧ Dw z (a + n) S6 ∧ Gd z S S6 ∧ S6.get (S.n + 2) = some (.lst [.loc S.n, .loc (S.n + 1)]) ∧ S6.get (S.n + 1) = some (.lst (M.map dX)) ∧ S6.get S3.n = some (.lst (((List.range i).flatMap fun i => ((List.range n).filter fun j => decide (i < j) && decide (M.idxOf i < M.idxOf j)).map fun j => (i, j)).map dP))) ⟨_, _, rfl, w2'.push _, g2'.push _, erP, ebP, by rw [Sto.get_push]; rfl⟩ ?_ ?_
      · rintro i σ S6 hi ⟨o5, o6, rfl, w6, g6, er6, eb6, ef6⟩
        have hi' : i < n := by simpa using hi
        have hA := flatB (m := n) (f := fun i => ((List.range n).filter fun j => decide (i < j) && decide (M.idxOf i < M.idxOf j)).map fun j => (i, j)) (List.range i) (fun i _ => by
          rw [List.length_map]
          refine Nat.le_trans (List.length_filter_le _ _) ?_
          rw [List.length_range]; exact Nat.le_refl _)
        rw [List.length_range] at hA
        have hA2 : i * n ≤ 5 * 5 := Nat.mul_le_mul (by omega) hn
        rw [List.range_succ, List.flatMap_append, List.flatMap_cons, List.flatMap_nil, List.append_nil]
        generalize (List.range i).flatMap (fun i => ((List.range n).filter fun j => decide (i < j) && decide (M.idxOf i < M.idxOf j)).map fun j => (i, j)) = A at ef6 hA ⊢
        walk_at "z"
        simp only [Int.zero_add]
        refine for_rng (fun j σ S7 => ∃ o6 : Option D, σ = [some (.loc z.st), some (.int (n : Nat)), some (.loc (S.n + 2)), some (.loc (S.n + 3)), some (.loc S3.n), some (.int (i : Nat)), o6, none] ∧ Dw z (a + n) S7 ∧ Gd z S S7 ∧ S7.get (S.n + 2) = some (.lst [.loc S.n, .loc (S.n + 1)]) ∧ S7.get (S.n + 1) = some (.lst (M.map dX)) ∧ S7.get S3.n = some (.lst ((A ++ (((List.range j).filter fun j => decide (i < j) && decide (M.idxOf i < M.idxOf j)).map fun j => (i, j))).map dP))) ⟨_, rfl, w6, g6, er6, eb6, by rw [ef6]; simp⟩ ?_ ?_
        · rintro j σ S7 hj ⟨o6, rfl, w7, g7, er7, eb7, ef7⟩
          have hj' : j < n := by simpa using hj
          have hB := List.length_filter_le (fun j => decide (i < j) && decide (M.idxOf i < M.idxOf j)) (List.range j)
          rw [List.length_range] at hB
          have hC : (A ++ (((List.range j).filter fun j => decide (i < j) && decide (M.idxOf i < M.idxOf j)).map fun j => (i, j))).length ≤ 100 := by rw [List.length_append, List.length_map]; omega
          have eJ : (A ++ (((List.range (j + 1)).filter fun j => decide (i < j) && decide (M.idxOf i < M.idxOf j)).map fun j => (i, j))) = (A ++ (((List.range j).filter fun j => decide (i < j) && decide (M.idxOf i < M.idxOf j)).map fun j => (i, j))) ++ ((([j] : List Nat).filter fun j => decide (i < j) && decide (M.idxOf i < M.idxOf j)).map fun j => (i, j)) := by rw [List.range_succ, List.filter_append, List.map_append, List.append_assoc]
          rw [eJ]
          clear eJ
          generalize (A ++ (((List.range j).filter fun j => decide (i < j) && decide (M.idxOf i < M.idxOf j)).map fun j => (i, j))) = C at ef7 hC ⊢
          walk_at "z"
          simp only [Int.zero_add]
          have elt : decide ((i : Int) < (j : Int)) = decide (i < j) := by rw [Bool.eq_iff_iff, decide_eq_true_eq, decide_eq_true_eq]; omega
          refine wQ_c (fun q => ?_) (fun q => ?_)
          · walk_at "z"
            refine z_ixL er7 rfl ?_
            walk_at "z"
            refine w_chkXl eb7 ?_
            walk_at "z"
            rw [ints_X] at eb7
            refine z_idxL eb7 (mem_X ((mm i).mpr hi')) ?_
            walk_at "z"
            refine z_ixL er7 rfl ?_
            walk_at "z"
            refine w_chkXl eb7 ?_
            walk_at "z"
            refine z_idxL eb7 (mem_X ((mm j).mpr hj')) ?_
            rw [idx_X, idx_X]
            rw [← ints_X] at eb7
            walk_at "z"
            have eid : decide ((M.idxOf i : Int) < (M.idxOf j : Int)) = decide (M.idxOf i < M.idxOf j) := by rw [Bool.eq_iff_iff, decide_eq_true_eq, decide_eq_true_eq]; omega
            rw [elt] at q
            refine wQ_c (fun q2 => ?_) (fun q2 => ?_)
            · rw [eid] at q2
              walk_at "z"
              refine w_chkL ef7 ?_
              walk_at "z"
              refine z_app ef7 (Nat.lt_of_le_of_lt (m := 100) (by rw [List.length_map]; exact hC) (by decide)) ?_
              walk_at "z"
              have hf7 := Sto.lt_of ef7
              refine ⟨_, rfl, w7.set (by omega) (by omega) (by omega) hf7, g7.set (.inr (by omega)) hf7 _, (Sto.get_set_ne (by omega) hf7).trans er7, (Sto.get_set_ne (by omega) hf7).trans eb7, ?_⟩
              rw [Sto.get_set ef7, List.filter_cons_of_pos (by rw [q, q2]; rfl)]
              simp [dP]
            · rw [eid] at q2
              walk_at "z"
              refine ⟨_, rfl, w7, g7, er7, eb7, ?_⟩
              rw [ef7, List.filter_cons_of_neg (by rw [q, q2]; decide)]
              simp
          · rw [elt] at q
            walk_at "z"
            refine ⟨_, rfl, w7, g7, er7, eb7, ?_⟩
            rw [ef7, List.filter_cons_of_neg (by rw [q]; simp)]
            simp
        · rintro σ S7 ⟨o6, rfl, w7, g7, er7, eb7, ef7⟩
          walk_at "z"
          exact ⟨_, _, rfl, w7, g7, er7, eb7, by simpa using ef7⟩
      · rintro σ S6 ⟨o5, o6, rfl, w6, g6, er6, eb6, ef6⟩
        rw [show ((n : Nat) : Int).toNat = n from rfl] at ef6
        change S6.get S3.n = some (.lst ((trnL n M).map dP)) at ef6
        have tl := trnL_len n M
        have tl2 : n * n ≤ 5 * 5 := Nat.mul_le_mul hn hn
        clear er6 eb6
        walk_at "z"
        refine (s_draw w6 (by omega) (by omega) (by omega)).use ?_
        rintro d S7 ⟨v, rfl, v0, v1, w7, g7⟩
        have ef7 := g7.get ef6 (nz _ (by omega))
        walk_at "z"
        refine wQ_c (fun q => ?_) (fun q => ?_)
        · walk_at "z"
          refine z_tupL ef7 ?_
          walk_at "z"
          exact ⟨trnL n M, rfl, trnL_ok n M, by omega, w7.mono (by omega), g6.trans g7⟩
        · walk_at "z"
          refine z_lstR1 (by omega) ?_
          rw [rg_X]
          walk_at "z"
          clear w6 ef6 q
          have h37 : S3.n < S7.n := Sto.lt_of ef7
          have ge7 : S.n ≤ S3.n := by omega
          have g67 : Gd z S S7 := g6.trans g7
          have ef8 : ((S7.push (.lst [])).push (.lst ((List.range n).map dX))).get S3.n = some (.lst ((trnL n M).map dP)) := by
            rw [Sto.get_push_lt (by simp; omega), Sto.get_push_lt h37]; exact ef7
          refine ws_while (fun σ S8 => ∃ N L, σ = [some (.loc z.st), some (.int (n : Nat)), some (.loc (S.n + 2)), some (.loc (S7.n + 1)), some (.loc S3.n), o5, o6, some (.loc S7.n)] ∧ Pm n N L ∧ Dw z (a + n + 1 + N.length) S8 ∧ Gd z S S8 ∧ S8.get S3.n = some (.lst ((trnL n M).map dP)) ∧ S8.get S7.n = some (.lst (N.map dX)) ∧ S8.get (S7.n + 1) = some (.lst (L.map dX))) (fun σ S2 => match S2.get (S7.n + 1) with
            | some (.lst xs) => xs.length
            | _ => 0) ⟨[], List.range n, rfl, by unfold Pm; rw [List.nil_append], ((w7.push _).push _).mono (by simp), (g67.push _).push _, ef8, ?_, Sto.get_push _ _⟩ ?_ ?_
          · rw [Sto.get_push_lt (by simp)]
            exact Sto.get_push _ _
          · have e3 : ∀ X : Sto, X.n = S7.n + 1 → ∀ o, (X.push o).get (S7.n + 1) = some o := fun X h o => by rw [← h]; exact Sto.get_push _ _
            rw [e3 _ rfl]
            simp only [List.length_map, List.length_range]
            omega
          · rintro σ S8 ⟨N, L, rfl, pm8, w8, g8, ef, en, el⟩
            have hlen := pm8.len
            walk_at "z"
            have el' : (S8.push (.lst [])).get (S7.n + 1) = some (.lst (L.map dX)) := (Sto.get_push_lt (Sto.lt_of el)).trans el
            have en' : (S8.push (.lst [])).get S7.n = some (.lst (N.map dX)) := (Sto.get_push_lt (Sto.lt_of en)).trans en
            have ef' : (S8.push (.lst [])).get S3.n = some (.lst ((trnL n M).map dP)) := (Sto.get_push_lt (Sto.lt_of ef)).trans ef
            have w8' := w8.push (.lst [])
            have g8' : Gd z S (S8.push (.lst [])) := g8.push _
            refine z_ne (pd_Xl el') (pd_loc (ps := []) (Sto.get_push _ _) rfl) ?_
            rw [eqv_nilX]
            walk_at "z"
            have hmu : (match S8.get (S7.n + 1) with
              | some (.lst xs) => xs.length
              | _ => 0) = L.length := by rw [el]; simp
            rw [hmu]
            generalize S8.push (.lst []) = S9 at el' en' ef' w8' g8' ⊢
            refine wQ_c (fun q => ?_) (fun q => ?_)
            · have hL : 0 < L.length := by cases L <;> simp_all
              walk_at "z"
              refine w_chkL en' ?_
              walk_at "z"
              refine w_chkL el' ?_
              walk_at "z"
              refine z_lenL el' ?_
              walk_at "z"
              rw [List.length_map]
              refine (s_draw w8' (by omega) (by omega) (by omega)).use ?_
              rintro d S10 ⟨v, rfl, v0, v1, w10, g10⟩
              walk_at "z"
              obtain ⟨j, rfl⟩ : ∃ j : Nat, v = j := ⟨v.toNat, by omega⟩
              have hj : j < L.length := by omega
              have el4 := g10.get el' (nz _ (by omega))
              have en4 := g10.get en' (nz _ (by omega))
              have ef4 := g10.get ef' (nz _ (by omega))
              refine z_popN el4 rfl (y := dX L[j]) (by rw [List.getElem?_map, List.getElem?_eq_getElem hj]; rfl) ?_
              walk_at "z"
              have en5 : (S10.set (S7.n + 1) (.lst ((L.map dX).eraseIdx j))).get S7.n = some (.lst (N.map dX)) := (Sto.get_set_ne (by omega) (Sto.lt_of el4)).trans en4
              refine z_app en5 (Nat.lt_of_le_of_lt (m := 10) (by rw [List.length_map]; omega) (by decide)) ?_
              walk_at "z"
              have hl4 := Sto.lt_of el4
              have hn4 := Sto.lt_of en4
              have e6 : ((S10.set (S7.n + 1) (.lst ((L.map dX).eraseIdx j))).set S7.n (.lst (N.map dX ++ [dX L[j]]))).get (S7.n + 1) = some (.lst ((L.eraseIdx j).map dX)) := by
                rw [Sto.get_set_ne (S := S10.set _ _) (by omega) hn4, Sto.get_set el4, erase_map]
              refine ⟨⟨N ++ [L[j]], L.eraseIdx j, by trivial, pm8.step (List.getElem?_eq_getElem hj), ?_, ?_, ?_, ?_, e6⟩, ?_⟩
              · refine ((w10.set (i := S7.n + 1) (by omega) (by omega) (by omega) hl4).set (i := S7.n) (by omega) (by omega) (by omega) hn4).mono ?_
                rw [List.length_append, List.length_singleton]
                omega
              · exact (((g8'.trans g10).set (.inr (by omega)) hl4 _).set (.inr (by omega)) hn4 _)
              · rw [Sto.get_set_ne (S := S10.set _ _) (by omega) hn4, Sto.get_set_ne (by omega) hl4]; exact ef4
              · rw [Sto.get_set en5, List.map_append]; rfl
              · rw [e6]
                simp only [List.length_map]
                rw [List.length_eraseIdx_of_lt hj]
                omega
            · have hL : L = [] := by cases L <;> simp_all
              subst hL
              clear el' el hmu
              obtain ⟨nn, nm, nl⟩ := pm8.end_
              rw [nl] at w8'
              walk_at "z"
              refine z_itL ef' ?_
              refine lc_L1 (as := trnL n M) (e := dP) ef' (fun p => dP (N.getD p.1 0, N.getD p.2 0)) (szl (by omega)) (fun p hp S11 gr11 => ?_) (fun S11 gr11 hn11 g11 => ?_)
              · obtain ⟨h1, h2, _⟩ := (trnL_ok n M).lt p hp
                walk_at "z"
                refine z_ixL (gr11.get en') (at_X (by rw [nl]; exact h1)) ?_
                walk_at "z"
                refine z_ixL (gr11.get en') (at_X (by rw [nl]; exact h2)) ?_
                walk_at "z"
                exact ⟨rfl, Gx.refl _ _⟩
              · walk_at "z"
                have e : ((trnL n M).map fun p => dP (N.getD p.1 0, N.getD p.2 0)) = ((trnL n M).map fun p => (N.getD p.1 0, N.getD p.2 0)).map dP := by rw [List.map_map]; rfl
                rw [e] at g11
                refine z_sorted (seq_lst g11) (srt_P _) ?_
                walk_at "z"
                refine z_tupL (Sto.get_push _ _) ?_
                walk_at "z"
                refine ⟨_, rfl, ren_ok (trnL_ok n M) nn nm nl, ?_, ?_, ?_⟩
                · rw [List.length_mergeSort, List.length_map]; omega
                · exact ((w8'.keep gr11).push _).mono (by omega)
                · exact (g8'.trans (gr11.any _)).push _
end
end L2.Z.Lw

set_option Elab.async false
set_option linter.all false
set_option maxRecDepth 100000
set_option maxHeartbeats 4000000
/-! R39: the law's side of k39, on -/
namespace L2.Z.Lw
open PySem PySem.Spec PyProof.Rows
local macro_rules | `(tactic| walk_at "z1") => `(tactic| (first
  | ((with_reducible refine z_var ?_); refine ⟨_, rfl, ?_⟩)
  | with_reducible refine w_C ?_
  | with_reducible refine w_cons ?_
  | with_reducible refine w_nil ?_
  | with_reducible refine w_call ?_
  | with_reducible refine w_e2 ?_
  | with_reducible refine w_e1 ?_
  | with_reducible refine w_cb ?_
  | ((with_reducible refine z_mod ?_ ?_); (first | omega | (simp only [List.length_map, List.length_append, List.length_range]; omega)))
  | ((with_reducible refine z_div ?_ ?_ ?_); (omega); (omega))
  | ((with_reducible refine z_mul ?_ ?_); (first | (left; omega) | (right; omega)))
  | ((with_reducible refine z_pow ?_ ?_); (decide))
  | with_reducible refine z_fld (by kernel_rfl) (by kernel_rfl) ?_
  | with_reducible refine w_d0 ?_
  | with_reducible refine w_co ?_
  | with_reducible refine w_xtp ?_
  | with_reducible refine w_idx ?_
  | with_reducible refine w_chkXt ?_
  | with_reducible refine w_dc ?_
  | with_reducible refine w_star ?_
  | with_reducible refine w_irng3 ?_
  | with_reducible refine z_kget ?_
  | with_reducible refine z_revT ?_
  | with_reducible refine z_max3 ?_
  | ((with_reducible refine z_wo ?_); refine ⟨_, _, rfl, ?_⟩)
  | with_reducible refine w_tV ?_
  | ((with_reducible refine z_itR ?_ ?_); (first | omega | (simp only [List.length_map, List.length_append, List.length_range]; omega)))
  | ((with_reducible refine z_itR2 ?_ ?_); (omega))
  | ((with_reducible refine z_wt ?_); refine ⟨_, rfl, ?_⟩)
  | with_reducible refine ws_seq ?_
  | ((with_reducible refine sq_nx ?_); try simp only [List.set_cons_zero, List.set_cons_succ])
  | with_reducible refine sq_rt ?_
  | with_reducible refine sq_xc ?_
  | with_reducible refine fz_rt ?_
  | with_reducible refine fz_nx ?_
  | with_reducible refine fz_xc ?_
  | ((with_reducible refine lp_nx ?_); try simp only [List.set_cons_zero, List.set_cons_succ])
  | with_reducible refine lp_rt ?_
  | with_reducible refine lp_xc ?_
  | with_reducible refine lp_bk ?_
  | with_reducible refine lp_ct ?_
  | with_reducible refine ws_if ?_
  | with_reducible refine ws_set ?_
  | with_reducible refine ws_ret ?_
  | with_reducible refine ws_retN ?_
  | with_reducible refine ws_nil ?_
  | with_reducible refine ws_drop ?_
  | with_reducible refine w_tN ?_
  | with_reducible refine w_tA ?_
  | with_reducible refine w_tO ?_
  | with_reducible refine w_tY ?_
  | with_reducible refine wQ_t rfl ?_
  | with_reducible refine wQ_f rfl ?_
  | with_reducible refine wB_t rfl ?_
  | with_reducible refine wB_f rfl ?_
  | with_reducible refine w_tup ?_
  | with_reducible refine w_lst ?_
  | ((with_reducible refine z_wz ?_ ?_); (exact rfl))
  | with_reducible refine w_and ?_
  | with_reducible refine w_or ?_
  | with_reducible refine w_not ?_
  | with_reducible refine w_if ?_
  | with_reducible refine w_chain ?_
  | with_reducible refine ws_un ?_
  | with_reducible refine ws_par ?_
  | with_reducible refine ws_par3 ?_
  | with_reducible refine ws_sub ?_
  | with_reducible refine ws_raise ?_
  | with_reducible refine ws_for ?_
  | with_reducible refine w_lc ?_
  | with_reducible refine w_lc2 ?_
  | with_reducible refine w_isq ?_
  | with_reducible refine w_irng1 ?_
  | with_reducible refine w_irng2 ?_
  | with_reducible refine w_ienm ?_
  | with_reducible refine w_ienmK ?_
  | with_reducible refine w_izp ?_
  | with_reducible refine w_sl ?_
  | with_reducible refine w_oN ?_
  | with_reducible refine w_oS ?_
  | with_reducible refine w_m ?_
  | ((with_reducible refine w_lam ?_); try simp only [List.replicate_succ, List.replicate_zero, Nat.reduceSub])
  | ((with_reducible refine sj_nx ?_); try simp only [List.set_cons_zero, List.set_cons_succ])
  | with_reducible refine sj_rt ?_
  | with_reducible refine sj_xc ?_
  | with_reducible refine sj_bk ?_
  | with_reducible refine sj_ct ?_
  | with_reducible refine ws_try ?_
  | with_reducible refine tr_nx ?_
  | with_reducible refine tr_rt ?_
  | with_reducible refine tr_xc ?_
  | with_reducible refine w_dict ?_
  | with_reducible refine w_pcons ?_
  | with_reducible refine w_pnil ?_
  | with_reducible refine rh_nx ?_
  | with_reducible refine rh_rt ?_
  | fail "z"))
local macro_rules | `(tactic| walk_at "z") => `(tactic| ((repeat' (walk_at "z1")); try dsimp only))
local macro_rules | `(tactic| walk_at "zF") => `(tactic| (refine wQ_f (by simp only [decide_eq_false_iff_not, decide_eq_true_eq, List.length_map, List.length_append, Int.not_lt, Bool.not_eq_eq_eq_not, Bool.not_true, Bool.not_false]; omega) ?_; walk_at "z"))
local macro_rules | `(tactic| walk_at "zT") => `(tactic| (refine wQ_t (by simp only [decide_eq_false_iff_not, decide_eq_true_eq, List.length_map, List.length_append, Int.not_lt, Bool.not_eq_eq_eq_not, Bool.not_true, Bool.not_false]; omega) ?_; walk_at "z"))
local macro_rules | `(tactic| walk_at "z0") => `(tactic| simp only [List.map_cons, List.map_nil, List.replicate_succ, List.replicate_zero, List.cons_append, List.nil_append, Nat.reduceSub, Nat.sub_self])
local macro_rules | `(tactic| walk_at "zc") => `(tactic| (walk_at "z0"; walk_at "z"))
section
variable {k : Nat} {S : Sto} {z : Ds} {a : Int}
theorem s_lare_pairs {n : Nat} {ps : NPs} (hl : ps.length ≤ 1000) : wp (callZ bs (k + 1) i__law_are_pairs [.int (n : Nat), dPs ps]) S (fun d S' => d = .bl (trC ps) ∧ Gr S S') noX := by
  refine call_go (b := b__law_are_pairs) rfl rfl rfl ?_
  unfold b__law_are_pairs
  walk_at "z0"
  change ws _ [some (.int (n : Nat)), some (.tup (ps.map dP)), none, none, none, none] S _
  walk_at "z"
  refine for_F (as := ps) (e := dP) (fun i σ S3 => ∃ o2 o3 : Option D, σ = [some (.int (n : Nat)), some (.tup (ps.map dP)), o2, o3, none, none] ∧ Gr S S3 ∧ ∀ p ∈ ps.take i, ((ps.filter fun q => q.1 == p.2).all fun q => ps.contains (p.1, q.2)) = true) ⟨_, _, rfl, Gx.refl _ _, by simp⟩ ?_ ?_
  · rintro i p σ S3 hp ⟨o2, o3, rfl, gr3, hI⟩
    have hmem : p ∈ ps := List.mem_of_getElem? hp
    walk_at "z"
    refine lc_F (as := ps) (e := dP) (fun q => (q.1 == p.2) && !ps.contains (p.1, q.2)) (fun q => .int 1) (szl (by omega)) (fun q hq S4 gr4 => ?_) (fun S4 gr4 hn4 g4 => ?_)
    · walk_at "z"
      have e1 : ((q.1 : Int) == (p.2 : Int)) = (q.1 == p.2) := by rw [Bool.eq_iff_iff, beq_iff_eq, beq_iff_eq]; omega
      show wQ ((q.1 : Int) == (p.2 : Int)) _ _
      rw [e1]
      refine wQ_c (fun h => ?_) (fun h => ?_)
      · walk_at "z"
        refine z_notIn (pd_P (p.1, q.2)) pd_Ps rfl ?_
        rw [any_P]
        walk_at "z"
        refine ⟨by rw [h, Bool.true_and], Gx.refl _ _, fun _ => ?_⟩
        walk_at "z"
        exact ⟨rfl, Gx.refl _ _⟩
      · refine ⟨by rw [h, Bool.false_and], Gx.refl _ _, fun hh => ?_⟩
        rw [h, Bool.false_and] at hh
        cases hh
    · walk_at "z"
      have ep : toPD 40 (S4.push (.lst [])) (.loc S3.n) = some (.list ((ps.filter fun q => (q.1 == p.2) && !ps.contains (p.1, q.2)).map fun _ => .int 1)) := pd_loc ((Sto.get_push_lt (Sto.lt_of g4)).trans g4) (toPDs_map (fun _ => pd_int) _)
      refine z_ne ep (pd_loc (ps := []) (Sto.get_push _ _) rfl) ?_
      have ee : ∀ l : NPs, PyData.eqv (.list (l.map fun _ => PyData.int 1)) (.list []) = l.isEmpty := fun l => by cases l <;> rfl
      rw [ee]
      walk_at "z"
      refine wQ_c (fun h => ?_) (fun h => ?_)
      · walk_at "z"
        refine ⟨?_, (gr3.trans gr4).push _⟩
        congr 1
        symm
        rw [← Bool.not_eq_true]
        intro ht
        have h2 := List.all_eq_true.mp ht p hmem
        rw [List.all_eq_true] at h2
        cases hx : (ps.filter fun q => (q.1 == p.2) && !ps.contains (p.1, q.2)) with
        | nil => rw [hx] at h; cases h
        | cons y r =>
          have hy : y ∈ ps.filter fun q => (q.1 == p.2) && !ps.contains (p.1, q.2) := by rw [hx]; simp
          obtain ⟨y1, y2⟩ := List.mem_filter.mp hy
          rw [Bool.and_eq_true] at y2
          have := h2 y (List.mem_filter.mpr ⟨y1, y2.1⟩)
          rw [this] at y2
          cases y2.2
      · walk_at "z"
        refine ⟨_, _, rfl, (gr3.trans gr4).push _, fun q hq => ?_⟩
        rw [List.take_succ, hp] at hq
        rcases List.mem_append.mp hq with hq | hq
        · exact hI q hq
        · simp only [Option.toList_some, List.mem_singleton] at hq
          subst hq
          rw [List.all_eq_true]
          intro y hy
          obtain ⟨y1, y2⟩ := List.mem_filter.mp hy
          cases hc : ps.contains (q.1, y.2) with
          | true => rfl
          | false =>
            have : y ∈ ps.filter fun w => (w.1 == q.2) && !ps.contains (q.1, w.2) := List.mem_filter.mpr ⟨y1, by rw [y2, hc]; rfl⟩
            cases hx : (ps.filter fun w => (w.1 == q.2) && !ps.contains (q.1, w.2)) with
            | nil => rw [hx] at this; cases this
            | cons w r => rw [hx] at h; cases h
  · rintro σ S3 ⟨o2, o3, rfl, gr3, hI⟩
    rw [List.take_length] at hI
    walk_at "z"
    refine ⟨?_, gr3⟩
    congr 1
    symm
    exact List.all_eq_true.mpr hI
end
/-! ### a history told back -/
theorem asc_eq : ∀ {l m : NPs}, l.Pairwise ltP → m.Pairwise ltP → (∀ p, p ∈ l ↔ p ∈ m) → l = m
  | [], [], _, _, _ => rfl
  | [], q :: m, _, _, h => by have := (h q).mpr (by simp); cases this
  | p :: l, [], _, _, h => by have := (h p).mp (by simp); cases this
  | p :: l, q :: m, hl, hm, h => by
    obtain ⟨l1, l2⟩ := List.pairwise_cons.mp hl
    obtain ⟨m1, m2⟩ := List.pairwise_cons.mp hm
    have e : p = q := by
      rcases List.mem_cons.mp ((h p).mp (by simp)) with e | hp
      · exact e
      · rcases List.mem_cons.mp ((h q).mpr (by simp)) with e | hq
        · exact e.symm
        · have a := m1 p hp
          have b := l1 q hq
          unfold ltP at a b
          omega
    subst e
    have irr : ∀ x, ¬ ltP x x := fun x hx => by unfold ltP at hx; omega
    rw [asc_eq l2 m2 fun x => ⟨fun hx => by
      rcases List.mem_cons.mp ((h x).mp (by simp [hx])) with e | hx'
      · subst e; exact absurd (l1 x hx) (irr x)
      · exact hx', fun hx => by
      rcases List.mem_cons.mp ((h x).mpr (by simp [hx])) with e | hx'
      · subst e; exact absurd (m1 x hx) (irr x)
      · exact hx'⟩]
/-- all pairs out of turn -/
def trs (ts : List Thg) : NPs := ts.zipIdx.flatMap fun p => (ts.zipIdx.filter fun q => trn p.1 q.1).map fun q => (p.2, q.2)
theorem trs_asc (ts : List Thg) : (trs ts).Pairwise ltP := by
  have hz : ts.zipIdx.Pairwise fun p q => p.2 < q.2 := by
    rw [List.pairwise_iff_getElem]
    intro i j hi hj hij
    simp only [List.getElem_zipIdx]
    omega
  unfold trs
  rw [List.pairwise_flatMap]
  refine ⟨fun p _ => ?_, ?_⟩
  · rw [List.pairwise_map]
    exact (hz.filter _).imp fun h => .inr ⟨rfl, h⟩
  · refine hz.imp fun {p q} h x hx y hy => ?_
    obtain ⟨_, _, rfl⟩ := List.mem_map.mp hx
    obtain ⟨_, _, rfl⟩ := List.mem_map.mp hy
    exact .inl h
theorem bkT_get {n : Nat} {r o : List Nat} {i : Nat} {t : Thg} : (bkT n r o)[i]? = some t ↔ i < n ∧ t = bk1 n r o i := by
  unfold bkT
  rw [List.getElem?_map]
  by_cases h : i < n
  · rw [List.getElem?_range h]; simp [h, eq_comm]
  · rw [List.getElem?_eq_none (by simpa using h)]; simp [h]
theorem trn_bk {n : Nat} {r o : List Nat} (hr : ∀ x, x < n → r.idxOf x < n) (ho : ∀ x, x < n → o.idxOf x < n) {i j : Nat} (hi : i < n) (hj : j < n) : trn (bk1 n r o i) (bk1 n r o j) = true ↔ r.idxOf i < r.idxOf j ∧ o.idxOf i < o.idxOf j := by
  have h1 := ho i hi
  have h2 := ho j hj
  unfold trn inA outA bk1
  simp only [Bool.and_eq_true, decide_eq_true_eq]
  omega
theorem trs_bk {n : Nat} {ps : NPs} {r o : List Nat} (P : PrOk n ps) (T : trC ps = true) (Lr : Lx n ps r) (Lo : Lx n ps o) (e : (comm r o).length = ps.length) : trs (bkT n r o) = ps := by
  have Po : PoO n ps := ⟨fun a b h => ⟨(P.lt _ h).1, (P.lt _ h).2.1⟩, fun a b h => (P.lt _ h).2.2, trC_iff.mp T, P.asc.imp fun {p q} h e => by subst e; rcases h with h | ⟨_, h⟩ <;> omega⟩
  have hr : ∀ x, x < n → r.idxOf x < n := fun x hx => by have := List.idxOf_lt_length_of_mem ((Lr.mem x).mpr hx); rw [Lr.len] at this; exact this
  have ho : ∀ x, x < n → o.idxOf x < n := fun x hx => by have := List.idxOf_lt_length_of_mem ((Lo.mem x).mpr hx); rw [Lo.len] at this; exact this
  refine asc_eq (trs_asc _) P.asc ?_
  rintro ⟨i, j⟩
  unfold trs
  simp only [List.mem_flatMap, List.mem_map, List.mem_filter, Prod.mk.injEq]
  constructor
  · rintro ⟨⟨t, i'⟩, ht, ⟨u, j'⟩, ⟨hu, hq⟩, rfl, rfl⟩
    obtain ⟨h1, rfl⟩ := bkT_get.mp (List.mk_mem_zipIdx_iff_getElem?.mp ht)
    obtain ⟨h2, rfl⟩ := bkT_get.mp (List.mk_mem_zipIdx_iff_getElem?.mp hu)
    exact (comm_is Po Lr Lo e _ _ h2).mp ((trn_bk hr ho h1 h2).mp hq)
  · intro h
    obtain ⟨h1, h2⟩ := Po.lt _ _ h
    exact ⟨(bk1 n r o i, i), List.mk_mem_zipIdx_iff_getElem?.mpr (bkT_get.mpr ⟨h1, rfl⟩), (bk1 n r o j, j), ⟨List.mk_mem_zipIdx_iff_getElem?.mpr (bkT_get.mpr ⟨h2, rfl⟩), (trn_bk hr ho h1 h2).mpr ((comm_is Po Lr Lo e _ _ h2).mpr h)⟩, rfl, rfl⟩
theorem erl_bk {n : Nat} {r o : List Nat} (hr : ∀ x, x < n → r.idxOf x < n) (ho : ∀ x, x < n → o.idxOf x < n) {i : Nat} (hi : i < n) : erl (bk1 n r o i) = false := by
  have h1 := hr i hi
  have h2 := ho i hi
  unfold erl bk1
  simp only [decide_eq_false_iff_not]
  omega
section
variable {k : Nat} {S : Sto} {z : Ds} {a : Int}
theorem s_back_is {n : Nat} {ps : NPs} {r o : List Nat} (hn : n ≤ 5) (P : PrOk n ps) (T : trC ps = true) (Lr : Lx n ps r) (Lo : Lx n ps o) (e : (comm r o).length = ps.length) :
    wp (callZ bs (k + 3) i__law_back_is [.int (n : Nat), dPs ps, dHist (bkT n r o, [])]) S (fun d S' => d = .bl true ∧ Gr S S') noX := by
  have hr : ∀ x, x < n → r.idxOf x < n := fun x hx => by have := List.idxOf_lt_length_of_mem ((Lr.mem x).mpr hx); rw [Lr.len] at this; exact this
  have ho : ∀ x, x < n → o.idxOf x < n := fun x hx => by have := List.idxOf_lt_length_of_mem ((Lo.mem x).mpr hx); rw [Lo.len] at this; exact this
  have hlen : (bkT n r o).length = n := by simp [bkT]
  refine call_go (b := b__law_back_is) rfl rfl rfl ?_
  unfold b__law_back_is
  walk_at "z0"
  refine ws_cut (fun σ S1 => σ = [some (.int (n : Nat)), some (dPs ps), some (dHist (bkT n r o, [])), none, none, none, none, none, none] ∧ Gr S S1) ?_ ?_
  · walk_at "z"
    rw [List.length_map, hlen]
    refine wQ_f (by show (!((n : Int) == (n : Int))) = false; simp) ?_
    walk_at "z"
    refine lc_F (as := ([] : List Cal)) (e := dCall) (fun _ => false) (fun _ => .non) (by decide) (fun q hq => by cases hq) (fun S2 gr2 hn2 g2 => ?_)
    walk_at "z"
    refine z_ne (pd_loc (ps := []) ((Sto.get_push_lt (Sto.lt_of g2)).trans g2) rfl) (pd_loc (ps := []) (Sto.get_push _ _) rfl) ?_
    walk_at "z"
    exact ⟨by trivial, gr2.push _⟩
  rintro σ S1 ⟨rfl, gr1⟩
  walk_at "z"
  refine for_E (as := bkT n r o) (e := dThing) (fun i σ S2 => ∃ (f : Nat) (o4 o5 : Option D), σ = [some (.int (n : Nat)), some (dPs ps), some (dHist (bkT n r o, [])), some (.loc f), o4, o5, none, none, none] ∧ Gr S S2 ∧ S2.get f = some (.lst ((((bkT n r o).zipIdx.take i).flatMap fun p => ((bkT n r o).zipIdx.filter fun q => trn p.1 q.1).map fun q => (p.2, q.2)).map dP))) ⟨_, _, _, rfl, gr1.push _, by rw [Sto.get_push]; rfl⟩ ?_ ?_
  · rintro i t σ S2 ht ⟨f, o4, o5, rfl, gr2, g2⟩
    obtain ⟨hi, rfl⟩ := bkT_get.mp ht
    have htk : (bkT n r o).zipIdx.take (i + 1) = (bkT n r o).zipIdx.take i ++ [(bk1 n r o i, i)] := by rw [List.take_succ, List.getElem?_zipIdx, ht]; simp
    have hA := flatB (m := 5) (f := fun p : Thg × Nat => ((bkT n r o).zipIdx.filter fun q => trn p.1 q.1).map fun q => (p.2, q.2)) ((bkT n r o).zipIdx.take i) (fun p _ => by
      rw [List.length_map]
      refine Nat.le_trans (List.length_filter_le _ _) ?_
      rw [List.length_zipIdx, hlen]; exact hn)
    have hA2 : ((bkT n r o).zipIdx.take i).length ≤ 5 := by rw [List.length_take, List.length_zipIdx, hlen]; omega
    rw [htk, List.flatMap_append, List.flatMap_cons, List.flatMap_nil, List.append_nil]
    generalize ((bkT n r o).zipIdx.take i).flatMap (fun p => ((bkT n r o).zipIdx.filter fun q => trn p.1 q.1).map fun q => (p.2, q.2)) = A at g2 hA ⊢
    refine ⟨_, rfl, ?_⟩
    simp only [List.set_cons_zero, List.set_cons_succ, Int.zero_add]
    refine ws_cut (fun σ S3 => σ = [some (.int (n : Nat)), some (dPs ps), some (dHist (bkT n r o, [])), some (.loc f), some (.int (i : Nat)), some (dThing (bk1 n r o i)), none, none, none] ∧ Gr S2 S3) ?_ ?_
    · walk_at "z"
      refine lc_F (as := [(bk1 n r o i).1, ((2 * (n : Int) - (o.idxOf i : Nat), 2 * (n : Int) - (o.idxOf i : Nat)) : Cal)]) (e := dCall) (fun _ => false) (fun _ => .non) (Nat.le_of_ble_eq_true rfl) (fun q hq S3 gr3 => ?_) (fun S3 gr3 hn3 g3 => ?_)
      · have hq' : q.1 = q.2 := by
          simp only [List.mem_cons, List.mem_nil_iff, or_false] at hq
          rcases hq with rfl | rfl <;> rfl
        walk_at "z"
        refine ⟨?_, Gx.refl _ _, fun hh => by cases hh⟩
        show (!(q.1 == q.2)) = false
        rw [hq']; simp
      · walk_at "z"
        refine z_ne (pd_loc (ps := []) ((Sto.get_push_lt (Sto.lt_of g3)).trans g3) rfl) (pd_loc (ps := []) (Sto.get_push _ _) rfl) ?_
        walk_at "z"
        refine s_learly.use ?_
        rintro d S4 ⟨rfl, rfl⟩
        rw [erl_bk hr ho hi]
        walk_at "z"
        exact ⟨by simp, gr3.push _⟩
    rintro σ S3 ⟨rfl, gr3⟩
    have g3 := gr3.get g2
    walk_at "z"
    rw [enum_ty]
    refine lc_F (as := (bkT n r o).zipIdx) (fun q => trn (bk1 n r o i) q.1) (fun q => dP (i, q.2)) (szl (by rw [List.length_zipIdx, hlen]; omega)) (fun q hq S4 gr4 => ?_) (fun S4 gr4 hn4 g4 => ?_)
    · walk_at "z"
      refine s_lturned.use ?_
      rintro d S5 ⟨rfl, rfl⟩
      refine ⟨_, rfl, rfl, Gx.refl _ _, fun _ => ?_⟩
      walk_at "z"
      simp only [Int.zero_add]
      exact ⟨rfl, Gx.refl _ _⟩
    · walk_at "z"
      have eB : (((bkT n r o).zipIdx.filter fun q => trn (bk1 n r o i) q.1).map fun q => dP (i, q.2)) = (((bkT n r o).zipIdx.filter fun q => trn (bk1 n r o i) q.1).map fun q => (i, q.2)).map dP := by rw [List.map_map]; rfl
      rw [eB] at g4
      have hB := List.length_filter_le (fun q : Thg × Nat => trn (bk1 n r o i) q.1) (bkT n r o).zipIdx
      rw [List.length_zipIdx, hlen] at hB
      refine z_addL (gr4.get g3) g4 (szl (by rw [List.length_map, List.length_map, List.length_map]; omega)) ?_
      walk_at "z"
      refine ⟨_, _, _, rfl, ((gr2.trans gr3).trans gr4).push _, ?_⟩
      rw [Sto.get_push, List.map_append]
  · rintro σ S2 ⟨f, o4, o5, rfl, gr2, g2⟩
    rw [← List.length_zipIdx (l := bkT n r o) (i := 0), List.take_length] at g2
    change S2.get f = some (.lst ((trs (bkT n r o)).map dP)) at g2
    rw [trs_bk P T Lr Lo e] at g2
    walk_at "z"
    refine z_tupL g2 ?_
    walk_at "z"
    refine z_eq pd_Ps pd_Ps ?_
    rw [show PyData.eqv (.tuple (ps.map pP)) (.tuple (ps.map pP)) = true by rw [PyData.eqv, eqvAll_map fun p => by rw [eqv_P]; simp]]
    exact ⟨rfl, gr2⟩
theorem clo_Ps (ps : NPs) : clo (dPs ps) = true := by
  unfold dPs
  simp only [clo]
  induction ps with
  | nil => rfl
  | cons p ps ih => simp only [List.map_cons, cloL, dP, clo, ih]
theorem clo_th (t : Thg) : clo (dThing t) = true := by
  obtain ⟨c, o⟩ := t
  cases o <;> rfl
theorem clo_H (ts : List Thg) : clo (dHist (ts, [])) = true := by
  unfold dHist
  simp only [clo, cloL, List.map_nil]
  have : cloL (ts.map dThing) = true := by
    induction ts with
    | nil => rfl
    | cons p ps ih => simp only [List.map_cons, cloL, clo_th, ih]
  rw [this]
theorem lf_bk {n : Nat} {r o : List Nat} (hn : n ≤ 5) (hr : ∀ x, x < n → r.idxOf x < n) (ho : ∀ x, x < n → o.idxOf x < n) : lf (10 ^ 50) (pHist (bkT n r o, [])) = true ∧ nd (pHist (bkT n r o, [])) ≤ 1000 := by
  have nt : ∀ (l : List Nat), nds ((l.map (bk1 n r o)).map pThing) ≤ l.length * 7 := by
    intro l
    induction l with
    | nil => simp [nds]
    | cons x l ih =>
      simp only [List.map_cons, nds, List.length_cons]
      have : nd (pThing (bk1 n r o x)) = 7 := by simp [pThing, bk1, pCall, pOpt, nd, nds]
      omega
  constructor
  · refine lf_mono (B := 1000) (by decide +kernel) ?_
    simp only [pHist, lf, lfs, Bool.and_true, List.map_nil]
    refine lfs_iff.mpr fun p hp => ?_
    obtain ⟨t, ht, rfl⟩ := List.mem_map.mp hp
    obtain ⟨x, hx, rfl⟩ := List.mem_map.mp (by unfold bkT at ht; exact ht)
    have hx' := List.mem_range.mp hx
    have h1 := hr x hx'
    have h2 := ho x hx'
    simp only [pThing, bk1, pCall, pOpt, lf, lfs, Bool.and_true, Bool.and_eq_true, decide_eq_true_eq]
    omega
  · have := nt (List.range n)
    rw [List.length_range] at this
    simp only [pHist, nd, nds, List.map_nil]
    unfold bkT
    omega
theorem z_eqX {Q : D → Sto → Prop} {x : Str} (h : PyData.strOk x = true) (q : Q (.bl true) S) : wo (fEq (.str x) (.str x) S) Q := by
  refine z_eq (pd_str0 h) (pd_str0 h) ?_
  rw [show PyData.eqv (.str x) (.str x) = true by simp only [PyData.eqv, beq_self_eq_true]]
  exact q
theorem PrOk.sub {n : Nat} {ps qs : NPs} (P : PrOk n ps) (h : qs.Sublist ps) : PrOk n qs := ⟨fun p hp => P.lt p (h.subset hp), P.asc.sublist h⟩
end
end L2.Z.Lw

set_option Elab.async false
set_option linter.all false
set_option maxRecDepth 100000
set_option maxHeartbeats 4000000
/-! T39: the law k39 -/
namespace L2.Z.Lw
open PySem PySem.Spec PyProof.Rows
local macro_rules | `(tactic| walk_at "z1") => `(tactic| (first
  | ((with_reducible refine z_var ?_); refine ⟨_, rfl, ?_⟩)
  | with_reducible refine w_C ?_
  | with_reducible refine w_cons ?_
  | with_reducible refine w_nil ?_
  | with_reducible refine w_call ?_
  | with_reducible refine w_e2 ?_
  | with_reducible refine w_e1 ?_
  | with_reducible refine w_cb ?_
  | ((with_reducible refine z_mod ?_ ?_); (first | omega | (simp only [List.length_map, List.length_append, List.length_range]; omega)))
  | ((with_reducible refine z_div ?_ ?_ ?_); (omega); (omega))
  | ((with_reducible refine z_mul ?_ ?_); (first | (left; omega) | (right; omega)))
  | ((with_reducible refine z_pow ?_ ?_); (decide))
  | with_reducible refine z_fld (by kernel_rfl) (by kernel_rfl) ?_
  | with_reducible refine w_d0 ?_
  | with_reducible refine w_co ?_
  | with_reducible refine w_xtp ?_
  | with_reducible refine w_idx ?_
  | with_reducible refine w_chkXt ?_
  | with_reducible refine w_dc ?_
  | with_reducible refine w_star ?_
  | with_reducible refine w_irng3 ?_
  | with_reducible refine z_kget ?_
  | with_reducible refine z_revT ?_
  | with_reducible refine z_max3 ?_
  | ((with_reducible refine z_wo ?_); refine ⟨_, _, rfl, ?_⟩)
  | with_reducible refine w_tV ?_
  | ((with_reducible refine z_itR ?_ ?_); (first | omega | (simp only [List.length_map, List.length_append, List.length_range]; omega)))
  | ((with_reducible refine z_itR2 ?_ ?_); (omega))
  | ((with_reducible refine z_wt ?_); refine ⟨_, rfl, ?_⟩)
  | with_reducible refine ws_seq ?_
  | ((with_reducible refine sq_nx ?_); try simp only [List.set_cons_zero, List.set_cons_succ])
  | with_reducible refine sq_rt ?_
  | with_reducible refine sq_xc ?_
  | with_reducible refine fz_rt ?_
  | with_reducible refine fz_nx ?_
  | with_reducible refine fz_xc ?_
  | ((with_reducible refine lp_nx ?_); try simp only [List.set_cons_zero, List.set_cons_succ])
  | with_reducible refine lp_rt ?_
  | with_reducible refine lp_xc ?_
  | with_reducible refine lp_bk ?_
  | with_reducible refine lp_ct ?_
  | with_reducible refine ws_if ?_
  | with_reducible refine ws_set ?_
  | with_reducible refine ws_ret ?_
  | with_reducible refine ws_retN ?_
  | with_reducible refine ws_nil ?_
  | with_reducible refine ws_drop ?_
  | with_reducible refine w_tN ?_
  | with_reducible refine w_tA ?_
  | with_reducible refine w_tO ?_
  | with_reducible refine w_tY ?_
  | with_reducible refine wQ_t rfl ?_
  | with_reducible refine wQ_f rfl ?_
  | with_reducible refine wB_t rfl ?_
  | with_reducible refine wB_f rfl ?_
  | with_reducible refine w_tup ?_
  | with_reducible refine w_lst ?_
  | ((with_reducible refine z_wz ?_ ?_); (exact rfl))
  | with_reducible refine w_and ?_
  | with_reducible refine w_or ?_
  | with_reducible refine w_not ?_
  | with_reducible refine w_if ?_
  | with_reducible refine w_chain ?_
  | with_reducible refine ws_un ?_
  | with_reducible refine ws_par ?_
  | with_reducible refine ws_par3 ?_
  | with_reducible refine ws_sub ?_
  | with_reducible refine ws_raise ?_
  | with_reducible refine ws_for ?_
  | with_reducible refine w_lc ?_
  | with_reducible refine w_lc2 ?_
  | with_reducible refine w_isq ?_
  | with_reducible refine w_irng1 ?_
  | with_reducible refine w_irng2 ?_
  | with_reducible refine w_ienm ?_
  | with_reducible refine w_ienmK ?_
  | with_reducible refine w_izp ?_
  | with_reducible refine w_sl ?_
  | with_reducible refine w_oN ?_
  | with_reducible refine w_oS ?_
  | with_reducible refine w_m ?_
  | ((with_reducible refine w_lam ?_); try simp only [List.replicate_succ, List.replicate_zero, Nat.reduceSub])
  | ((with_reducible refine sj_nx ?_); try simp only [List.set_cons_zero, List.set_cons_succ])
  | with_reducible refine sj_rt ?_
  | with_reducible refine sj_xc ?_
  | with_reducible refine sj_bk ?_
  | with_reducible refine sj_ct ?_
  | with_reducible refine ws_try ?_
  | with_reducible refine tr_nx ?_
  | with_reducible refine tr_rt ?_
  | with_reducible refine tr_xc ?_
  | with_reducible refine w_dict ?_
  | with_reducible refine w_pcons ?_
  | with_reducible refine w_pnil ?_
  | with_reducible refine rh_nx ?_
  | with_reducible refine rh_rt ?_
  | fail "z"))
local macro_rules | `(tactic| walk_at "z") => `(tactic| ((repeat' (walk_at "z1")); try dsimp only))
local macro_rules | `(tactic| walk_at "zF") => `(tactic| (refine wQ_f (by simp only [decide_eq_false_iff_not, decide_eq_true_eq, List.length_map, List.length_append, Int.not_lt, Bool.not_eq_eq_eq_not, Bool.not_true, Bool.not_false]; omega) ?_; walk_at "z"))
local macro_rules | `(tactic| walk_at "zT") => `(tactic| (refine wQ_t (by simp only [decide_eq_false_iff_not, decide_eq_true_eq, List.length_map, List.length_append, Int.not_lt, Bool.not_eq_eq_eq_not, Bool.not_true, Bool.not_false]; omega) ?_; walk_at "z"))
local macro_rules | `(tactic| walk_at "z0") => `(tactic| simp only [List.map_cons, List.map_nil, List.replicate_succ, List.replicate_zero, List.cons_append, List.nil_append, Nat.reduceSub, Nat.sub_self])
local macro_rules | `(tactic| walk_at "zc") => `(tactic| (walk_at "z0"; walk_at "z"))
section
variable {k : Nat} {S : Sto} {z : Ds} {a : Int}
theorem s_back_right (w : Dw z a S) (ha : a < 2 ^ 40) (h0 : 0 ≤ a) : wp (callZ bs (k + 10) i__law_back_right [.loc z.st]) S (fun d S' => d = .bl true ∧ Dw z (a + 20) S' ∧ Gd z S S') noX := by
  obtain ⟨q1, q2, q3⟩ := w.lt
  refine call_go (b := b__law_back_right) rfl rfl rfl ?_
  unfold b__law_back_right
  walk_at "z0"
  walk_at "z"
  refine (s_draw w (by omega) (by omega) (by omega)).use ?_
  rintro d S1 ⟨v, rfl, v0, v1, w1, g1⟩
  obtain ⟨n, rfl⟩ : ∃ j : Nat, v = j := ⟨v.toNat, by omega⟩
  have hn : n ≤ 5 := by omega
  walk_at "z"
  refine (s_lpairs w1 (by omega) (by omega) hn).use ?_
  rintro d S2 ⟨ps, rfl, P, hl, w2, g2⟩
  simp only [List.set_cons_zero, List.set_cons_succ]
  refine sq_nx ?_
  refine ws_cut (fun σ S3 => ∃ (ps : NPs) (o4 : Option D), σ = [some (.loc z.st), some (.int (n : Nat)), some (dPs ps), none, o4] ∧ PrOk n ps ∧ ps.length ≤ 25 ∧ Dw z (a + 14) S3 ∧ Gd z S S3) ?_ ?_
  · walk_at "z"
    refine (s_draw w2 (by omega) (by omega) (by omega)).use ?_
    rintro d S3 ⟨v, rfl, v0, v1, w3, g3⟩
    walk_at "z"
    refine wQ_c (fun q => ?_) (fun q => ?_)
    · walk_at "z"
      refine z_neU (b := !ps.isEmpty) ?_ ?_
      · have e1 : isU S3 (dPs ps) = some ps.isEmpty := by
          unfold isU dPs
          rw [pd_Ps]
          cases ps <;> rfl
        unfold isNU
        rw [e1]
      walk_at "z"
      refine wQ_c (fun q4 => ?_) (fun q4 => ?_)
      · have hpos : 0 < ps.length := by cases ps <;> simp_all
        unfold dPs
        walk_at "z"
        rw [List.length_map]
        refine (s_draw w3 (by omega) (by omega) (by omega)).use ?_
        rintro d S4 ⟨v2, rfl, u0, u1, w4, g4⟩
        obtain ⟨j, rfl⟩ : ∃ j : Nat, v2 = j := ⟨v2.toNat, by omega⟩
        walk_at "z"
        rw [show ((j : Int) + 1) = ((j + 1 : Nat) : Int) by omega, cut_from, cut_to, ← List.map_take, ← List.map_drop]
        refine z_addT (szl (by rw [List.length_map, List.length_map, List.length_take, List.length_drop]; omega)) ?_
        rw [← List.map_append]
        walk_at "z"
        have hsub : (ps.take j ++ ps.drop (j + 1)).Sublist ps := by
          have := List.Sublist.append (List.Sublist.refl (ps.take j)) (List.drop_sublist 1 (ps.drop j))
          rw [List.drop_drop, List.take_append_drop] at this
          exact this
        exact ⟨ps.take j ++ ps.drop (j + 1), _, rfl, P.sub hsub, Nat.le_trans hsub.length_le hl, w4.mono (by omega), ((g1.trans g2).trans g3).trans g4⟩
      · walk_at "z"
        exact ⟨ps, _, rfl, P, hl, w3.mono (by omega), (g1.trans g2).trans g3⟩
    · walk_at "z"
      exact ⟨ps, _, rfl, P, hl, w3.mono (by omega), (g1.trans g2).trans g3⟩
  clear P hl
  rintro σ S3 ⟨ps, o4, rfl, P, hl, w3, g3⟩
  have cl : cloL [.int (n : Nat), dPs ps] = true := by simp only [cloL, clo, clo_Ps]
  walk_at "z"
  refine (s_lare_pairs (by omega)).use ?_
  rintro d S4 ⟨rfl, gr4⟩
  cases T : trC ps with
  | false =>
    walk_at "z"
    unfold b__law_heard
    walk_at "z"
    refine wp.new (R := fun _ _ => False) (E0 := fun x _ => x = ⟨"BadPairs", ["given"], [dPs ps]⟩) cl (s_told_back_no (k := k + 1) hn (by omega) P T (fun _ _ => rfl)) (fun _ _ h => h.elim) (fun x S' hx => ?_)
    subst hx
    refine ⟨by simp only [cloL, clo_Ps], ?_⟩
    walk_at "z"
    refine runH_f (by kernel_rfl) ?_
    refine runH_t (by kernel_rfl) ?_
    walk_at "z"
    have e1 : toPD 40 S4 (.tup [.str "pairs", dPs ps]) = some (.tuple [.str "pairs", .tuple (ps.map pP)]) := by
      refine pd_tup ?_
      have h1 : toPD 39 S4 (.str "pairs") = some (.str "pairs") := pd_str0 (by decide +kernel)
      have h2 : toPD 39 S4 (dPs ps) = some (.tuple (ps.map pP)) := pd_tup (toPDs_map (fun p => pd_P p) _)
      simp only [toPDs, h1, h2]
    refine z_eq e1 e1 ?_
    rw [show PyData.eqv (.tuple [.str "pairs", .tuple (ps.map pP)]) (.tuple [.str "pairs", .tuple (ps.map pP)]) = true by
      simp only [PyData.eqv, PyData.eqvAll, eqvAll_map (fun p : Nat × Nat => show PyData.eqv (pP p) (pP p) = true by rw [eqv_P]; simp), beq_self_eq_true, Bool.and_self]]
    walk_at "z"
    exact ⟨rfl, (w3.keep gr4).mono (by omega), g3.trans (gr4.any _)⟩
  | true =>
    obtain ⟨dd, S0, eq0, r, o, rfl, Lr, Lo, ec, _⟩ := (s_told_back (k := k + 1) (S := ⟨[], 0⟩) hn (by omega) P T).ok
    have hr : ∀ x, x < n → r.idxOf x < n := fun x hx => by have := List.idxOf_lt_length_of_mem ((Lr.mem x).mpr hx); rw [Lr.len] at this; exact this
    have ho : ∀ x, x < n → o.idxOf x < n := fun x hx => by have := List.idxOf_lt_length_of_mem ((Lo.mem x).mpr hx); rw [Lo.len] at this; exact this
    obtain ⟨lf1, nd1⟩ := lf_bk (r := r) (o := o) hn hr ho
    have et : ∀ X : Sto, toPR X (dHist (bkT n r o, [])) = some (pHist (bkT n r o, [])) := fun X => by unfold toPR; rw [pd_hist (n := 36)]
    have so := sO_shown lf1
    have sk := shown_ok lf1 nd1
    obtain ⟨tx, ht⟩ : ∃ tx, (pHist (bkT n r o, [])).shown = tx := ⟨_, rfl⟩
    rw [ht] at so
    have zr : ∀ (X : Sto) (Q : D → Sto → Prop), Q (.str tx) X → wo (fRepr [dHist (bkT n r o, [])] X) Q := fun X Q q => z_repr (et X) sk.1 sk.2 (by rw [ht]; exact q)
    clear et sk ht lf1 nd1
    walk_at "z"
    refine w_new cl eq0 (clo_H _) ?_
    walk_at "z"
    refine w_new cl eq0 (clo_H _) ?_
    walk_at "z"
    refine zr _ _ ?_
    walk_at "z"
    refine zr _ _ ?_
    walk_at "z"
    refine z_eqX so ?_
    walk_at "z"
    refine (s_back_is (k := k + 6) hn P T Lr Lo ec).use ?_
    rintro d S5 ⟨rfl, gr5⟩
    walk_at "z"
    exact ⟨rfl, (w3.keep (gr4.trans gr5)).mono (by omega), g3.trans ((gr4.trans gr5).any _)⟩
theorem s_law {ns : List Int} (hn : ns.length ≤ 63) : wp (callZ bs 16 i_law [.scr ns]) S (fun d _ => d = .bl true) noX := by
  refine call_go (b := b_law) rfl rfl rfl ?_
  unfold b_law
  walk_at "z0"
  refine ws_cut (fun σ S1 => ∃ z : Ds, σ = [some (.scr ns), some (.loc z.st), none, none, none, none] ∧ Dw z 0 S1) ?_ ?_
  · walk_at "z"
    refine (s_begin hn).use ?_
    rintro d S1 ⟨z, rfl, w1, g1, _⟩
    walk_at "z"
    exact ⟨z, rfl, w1⟩
  rintro σ S1 ⟨z, rfl, w1⟩
  refine ws_cut (fun σ S2 => ∃ o2 : Option D, σ = [some (.scr ns), some (.loc z.st), o2, none, none, none]) ?_ ?_
  · walk_at "z"
    refine for_rng (fun i σ S2 => ∃ o2 : Option D, σ = [some (.scr ns), some (.loc z.st), o2, none, none, none] ∧ Dw z (20 * i) S2) ⟨_, rfl, w1.mono (by omega)⟩ ?_ ?_
    · rintro i σ S2 hi ⟨o2, rfl, w2⟩
      walk_at "z"
      refine (s_back_right (k := 5) w2 (by omega) (by omega)).use ?_
      rintro d S3 ⟨rfl, w3, g3⟩
      walk_at "z"
      exact ⟨_, rfl, w3.mono (by omega)⟩
    · rintro σ S2 ⟨o2, rfl, w2⟩
      walk_at "z"
      exact ⟨_, rfl⟩
  rintro σ S2 ⟨o2, rfl⟩
  refine ws_new (fl := .rt (.bl true)) rfl ?_ rfl ?_
  · intro τ
    kernel_rfl
  · rfl
theorem law_ok (ns : List Int) (hn : ns.length ≤ 63) (_ : ∀ z ∈ ns, Builtin.Int.intBits z ≤ 1048576) : ∃ S, callZ bs 16 i_law [.scr ns] ⟨[], 0⟩ = .ok (.bl true) S := by
  obtain ⟨d, S', e, rfl⟩ := (s_law (S := ⟨[], 0⟩) hn).ok
  exact ⟨S', e⟩
end
end L2.Z.Lw

theorem PySem.Challenge.cw_fewqueues_k39_whole_told_back_holds : PySem.Challenge.rw_fewqueues_k39_whole_told_back.Holds :=
  L2.Z.Lw.holds_of L2.Z.Lw.law_ok
